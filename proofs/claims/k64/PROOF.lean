import PyProof.Rows.All
import Wide.All
import OpenK.AllK
import Wide.FinOn
import HandS.ForMost
import HandS.IsInst
import HandS.Wide
import HandS.Flow
import HandS.TupAny
import HandS.Conv
import PySem.Challenge.RW_rungstead_k64_stretches
set_option Elab.async false
set_option maxRecDepth 100000
namespace Zw
open PySem L2

/-! ### values as trees, a small store of what changes -/
inductive W where
  | non | bl (b : Bool) | int (i : Int) | str (x : Str)
  | tup (ws : List W) | lst (ws : List W) | lsr (ws : List W)
  | ins (c : String) (ns : List String) (ws : List W)
  | glo (x : String) | ty (x : String) | ref (k : Nat)
inductive Ob where
  | lst (ws : List W)
  | dK (kvs : List (Key × W))
  | dT (kvs : List (List Key × W))
  | ins (c : String) (fs : List (String × W))
abbrev Sto := List Ob
abbrev Ev := List (Option W)
mutual
@[simp] def W.flat : W → Bool
  | .non => true
  | .bl _ => true
  | .int _ => true
  | .str _ => true
  | .tup ws => flats ws
  | .lst ws => flats ws
  | .lsr ws => flats ws
  | .ins _ _ ws => flats ws
  | .glo _ => true
  | .ty _ => true
  | .ref _ => false
@[simp] def flats : List W → Bool
  | [] => true
  | w :: ws => w.flat && flats ws
end

/-! ### what stands for what -/
section
variable (K : PySem.W.Frag) (mg : Str → Option Value)
def FT (B : Addr → Prop) (H : Hp) (a : Addr) (xs : List V) : Prop :=
  (¬ B a ∧ Rd H a (.tup xs)) ∨ ∃ (o : Obj) (its : Array Value) (n : Nat), K.lookup a = some o ∧ o.cls = .type "tuple" ∧ o.data = .seq its n ∧ its.size ≤ sizeLine ∧ Vals xs its.toList
def FL (B : Addr → Prop) (H : Hp) (a : Addr) (xs : List V) : Prop :=
  (¬ B a ∧ Rd H a (.lst xs)) ∨ ∃ (o : Obj) (its : Array Value) (n : Nat), K.lookup a = some o ∧ o.cls = .type "list" ∧ o.dict = none ∧ o.data = .seq its n ∧ its.size ≤ sizeLine ∧ Vals xs its.toList
mutual
inductive Rp (B : Addr → Prop) (m : List Addr) (H : Hp) : W → V → Prop
  | non : Rp B m H .non .non
  | bl (b : Bool) : Rp B m H (.bl b) (.bl b)
  | int (i : Int) : Rp B m H (.int i) (.int i)
  | str (x : Str) : Rp B m H (.str x) (.str x)
  | tup {a : Addr} {ws : List W} {vs : List V} : FT K B H a vs → Rps B m H ws vs → Rp B m H (.tup ws) (.ref a)
  | lst {a : Addr} {ws : List W} {vs : List V} : ¬ B a → H a = some (.lst vs) → Rps B m H ws vs → Rp B m H (.lst ws) (.ref a)
  | lsr {a : Addr} {ws : List W} {vs : List V} : FL K B H a vs → Rps B m H ws vs → Rp B m H (.lsr ws) (.ref a)
  | ins {a C dx : Addr} {c : String} {ns : List String} {ws : List W} {vs : List V} : ¬ B a → mg (Str.ofString c) = some (.ref C) → H a = some (.ins C dx ((ns.map Str.ofString).zip vs)) → ns.length = vs.length → Rps B m H ws vs → Rp B m H (.ins c ns ws) (.ref a)
  | glo {a : Addr} {x : String} : mg (Str.ofString x) = some (.ref a) → Rp B m H (.glo x) (.ref a)
  | ty (x : String) : Rp B m H (.ty x) (.ty x)
  | ref {a : Addr} {k : Nat} : m[k]? = some a → Rp B m H (.ref k) (.ref a)
inductive Rps (B : Addr → Prop) (m : List Addr) (H : Hp) : List W → List V → Prop
  | nil : Rps B m H [] []
  | cons {w : W} {ws : List W} {v : V} {vs : List V} : Rp B m H w v → Rps B m H ws vs → Rps B m H (w :: ws) (v :: vs)
end
def RpO (B : Addr → Prop) (m : List Addr) (H : Hp) : Option W → Option V → Prop
  | some w, some v => Rp K mg B m H w v
  | some _, none => False
  | none, _ => True
abbrev EvR (B : Addr → Prop) (m : List Addr) (H : Hp) : Ev → St → Prop := Paired (RpO K mg B m H)
def OR (B : Addr → Prop) (m : List Addr) (H : Hp) (a : Addr) : Ob → Prop
  | .lst ws => ∃ vs, H a = some (.lst vs) ∧ Rps K mg B m H ws vs
  | .dK kvs => ∃ vs, H a = some (.dK vs) ∧ Paired (fun (p : Key × W) (q : Key × V) => p.1 = q.1 ∧ Rp K mg B m H p.2 q.2) kvs vs
  | .dT kvs => ∃ vs, H a = some (.dT vs) ∧ Paired (fun (p : List Key × W) (q : List Key × V) => p.1 = q.1 ∧ Rp K mg B m H p.2 q.2) kvs vs
  | .ins c fs => ∃ C dx vs, mg (Str.ofString c) = some (.ref C) ∧ H a = some (.ins C dx vs) ∧ Paired (fun (p : String × W) (q : Str × V) => Str.ofString p.1 = q.1 ∧ Rp K mg B m H p.2 q.2) fs vs
structure Rel (B : Addr → Prop) (m : List Addr) (S : Sto) (H : Hp) : Prop where
  nodup : m.Nodup
  len : m.length = S.length
  inB : ∀ a ∈ m, B a
  trk : ∀ a, B a → ∃ o, H a = some o
  obj : ∀ (k : Nat) a o, m[k]? = some a → S[k]? = some o → OR K mg B m H a o
end
/-- a step of the heap: what is not in m stands as it was -/
structure Stp (B : Addr → Prop) (m : List Addr) (H : Hp) (B' : Addr → Prop) (m' : List Addr) (H' : Hp) : Prop where
  pre : ∃ nw, m' = m ++ nw ∧ ∀ a ∈ nw, H a = none
  grow : ∀ a, B a → B' a
  new : ∀ a, B' a → ¬ B a → H a = none
  keep : ∀ a o, H a = some o → a ∉ m → H' a = some o
  there : ∀ a o, H a = some o → ∃ o', H' a = some o'

section
variable {K : PySem.W.Frag} {mg : Str → Option Value} {B B1 B2 : Addr → Prop} {m m1 m2 : List Addr} {S S1 S2 : Sto} {H H1 H2 : Hp} {a p : Addr}
theorem Stp.refl : Stp B m H B m H := ⟨⟨[], by simp, by simp⟩, fun _ h => h, fun _ h n => absurd h n, fun _ _ h _ => h, fun _ o h => ⟨o, h⟩⟩
theorem Stp.trans (x : Stp B m H B1 m1 H1) (y : Stp B1 m1 H1 B2 m2 H2) : Stp B m H B2 m2 H2 := by
  obtain ⟨n1, e1, f1⟩ := x.pre
  obtain ⟨n2, e2, f2⟩ := y.pre
  have back : ∀ a, H1 a = none → H a = none := fun a h => by
    cases q : H a with
    | none => rfl
    | some o =>
      obtain ⟨o', h'⟩ := x.there a o q
      rw [h] at h'; cases h'
  refine ⟨⟨n1 ++ n2, by rw [e2, e1, List.append_assoc], fun a h => ?_⟩, fun a h => y.grow a (x.grow a h), fun a h n => ?_, fun a o h n => ?_, fun a o h => ?_⟩
  · rcases List.mem_append.mp h with h | h
    · exact f1 a h
    · exact back a (f2 a h)
  · by_cases q : B1 a
    · exact x.new a q n
    · exact back a (y.new a h q)
  · refine y.keep a o (x.keep a o h n) fun z => ?_
    rw [e1] at z
    rcases List.mem_append.mp z with z | z
    · exact n z
    · rw [f1 a z] at h; cases h
  · obtain ⟨o1, h1⟩ := x.there a o h
    exact y.there a o1 h1
theorem Stp.notB (x : Stp B m H B1 m1 H1) {o : HO} (h : H a = some o) (n : ¬ B a) : ¬ B1 a := fun z => by
  rw [x.new a z n] at h; cases h
theorem Rd.there {u : HO} (r : Rd H a u) : ∃ o, H a = some o := by
  rcases r with r | ⟨o, r⟩
  · exact ⟨_, r⟩
  · exact ⟨_, r⟩
theorem Stp.rd (x : Stp B m H B1 m1 H1) (sub : ∀ a ∈ m, B a) {u : HO} (n : ¬ B a) (r : Rd H a u) : Rd H1 a u := by
  rcases r with r | ⟨o, r⟩
  · exact .inl (x.keep a _ r fun z => n (sub a z))
  · exact .inr ⟨o, x.keep a _ r fun z => n (sub a z)⟩
theorem FT.mono (x : Stp B m H B1 m1 H1) (sub : ∀ a ∈ m, B a) {xs : List V} (h : FT K B H a xs) : FT K B1 H1 a xs := by
  rcases h with ⟨n, r⟩ | h
  · obtain ⟨o, q⟩ := Rd.there r
    exact .inl ⟨x.notB q n, x.rd sub n r⟩
  · exact .inr h
theorem FL.mono (x : Stp B m H B1 m1 H1) (sub : ∀ a ∈ m, B a) {xs : List V} (h : FL K B H a xs) : FL K B1 H1 a xs := by
  rcases h with ⟨n, r⟩ | h
  · obtain ⟨o, q⟩ := Rd.there r
    exact .inl ⟨x.notB q n, x.rd sub n r⟩
  · exact .inr h
theorem FT.seq {xs : List V} (h : FT K B H a xs) : SqT K H a xs := h.elim (fun h => .inl h.2) .inr
theorem FL.seq {xs : List V} (h : FL K B H a xs) : SqL K H a xs := h.elim (fun h => .inl h.2) .inr
mutual
theorem Rp.mono (x : Stp B m H B1 m1 H1) (sub : ∀ a ∈ m, B a) : ∀ {w : W} {v : V}, Rp K mg B m H w v → Rp K mg B1 m1 H1 w v
  | _, _, .non => .non
  | _, _, .bl b => .bl b
  | _, _, .int i => .int i
  | _, _, .str z => .str z
  | _, _, .tup f r => .tup (f.mono x sub) (Rps.mono x sub r)
  | _, _, .lst n h r => .lst (x.notB h n) (x.keep _ _ h fun z => n (sub _ z)) (Rps.mono x sub r)
  | _, _, .lsr f r => .lsr (f.mono x sub) (Rps.mono x sub r)
  | _, _, .ins n g h l r => .ins (x.notB h n) g (x.keep _ _ h fun z => n (sub _ z)) l (Rps.mono x sub r)
  | _, _, .glo g => .glo g
  | _, _, .ty g => .ty g
  | _, _, .ref h => .ref (by
      obtain ⟨nw, e, _⟩ := x.pre
      rw [e, List.getElem?_append_left (List.getElem?_eq_some_iff.mp h).1]
      exact h)
theorem Rps.mono (x : Stp B m H B1 m1 H1) (sub : ∀ a ∈ m, B a) : ∀ {ws : List W} {vs : List V}, Rps K mg B m H ws vs → Rps K mg B1 m1 H1 ws vs
  | _, _, .nil => .nil
  | _, _, .cons r t => .cons (Rp.mono x sub r) (Rps.mono x sub t)
end
mutual
/-- a flat value: the numbering does not matter -/
theorem Rp.flat : ∀ {w : W} {v : V}, w.flat = true → Rp K mg B m H w v → Rp K mg B m1 H w v
  | _, _, _, .non => .non
  | _, _, _, .bl b => .bl b
  | _, _, _, .int i => .int i
  | _, _, _, .str z => .str z
  | _, _, e, .tup f r => .tup f (Rps.flat (by simpa [W.flat] using e) r)
  | _, _, e, .lst n h r => .lst n h (Rps.flat (by simpa [W.flat] using e) r)
  | _, _, e, .lsr f r => .lsr f (Rps.flat (by simpa [W.flat] using e) r)
  | _, _, e, .ins n g h l r => .ins n g h l (Rps.flat (by simpa [W.flat] using e) r)
  | _, _, _, .glo g => .glo g
  | _, _, _, .ty g => .ty g
  | _, _, e, .ref h => by simp [W.flat] at e
theorem Rps.flat : ∀ {ws : List W} {vs : List V}, flats ws = true → Rps K mg B m H ws vs → Rps K mg B m1 H ws vs
  | _, _, _, .nil => .nil
  | _, _, e, .cons r t => by
    simp only [flats, Bool.and_eq_true] at e
    exact .cons (Rp.flat e.1 r) (Rps.flat e.2 t)
end
theorem Rps.length : ∀ {ws : List W} {vs : List V}, Rps K mg B m H ws vs → ws.length = vs.length
  | _, _, .nil => rfl
  | _, _, .cons _ t => by simp [Rps.length t]
theorem Rps.get : ∀ {ws : List W} {vs : List V} {i : Nat} {w : W}, Rps K mg B m H ws vs → ws[i]? = some w → ∃ v, vs[i]? = some v ∧ Rp K mg B m H w v
  | _, _, _, _, .nil, e => by simp at e
  | _, _, 0, _, .cons r _, e => by simp at e; subst e; exact ⟨_, rfl, r⟩
  | _, _, i + 1, w, .cons _ t, e => by
    obtain ⟨v, h1, h2⟩ := Rps.get (i := i) (w := w) t (by simpa using e)
    exact ⟨v, by simpa using h1, h2⟩
theorem Rps.getV : ∀ {ws : List W} {vs : List V} {i : Nat} {v : V}, Rps K mg B m H ws vs → vs[i]? = some v → ∃ w, ws[i]? = some w ∧ Rp K mg B m H w v
  | _, _, _, _, .nil, e => by simp at e
  | _, _, 0, _, .cons r _, e => by simp at e; subst e; exact ⟨_, rfl, r⟩
  | _, _, i + 1, v, .cons _ t, e => by
    obtain ⟨w, h1, h2⟩ := Rps.getV (i := i) (v := v) t (by simpa using e)
    exact ⟨w, by simpa using h1, h2⟩
theorem Rps.append : ∀ {ws us : List W} {vs xs : List V}, Rps K mg B m H ws vs → Rps K mg B m H us xs → Rps K mg B m H (ws ++ us) (vs ++ xs)
  | _, _, _, _, .nil, h => h
  | _, _, _, _, .cons r t, h => .cons r (Rps.append t h)
theorem Rps.take : ∀ {ws : List W} {vs : List V} (n : Nat), Rps K mg B m H ws vs → Rps K mg B m H (ws.take n) (vs.take n)
  | _, _, 0, _ => .nil
  | _, _, _ + 1, .nil => .nil
  | _, _, n + 1, .cons r t => .cons r (Rps.take n t)
theorem Rps.drop : ∀ {ws : List W} {vs : List V} (n : Nat), Rps K mg B m H ws vs → Rps K mg B m H (ws.drop n) (vs.drop n)
  | _, _, 0, r => r
  | _, _, _ + 1, .nil => .nil
  | _, _, n + 1, .cons _ t => Rps.drop n t
theorem Rps.set {w : W} {v : V} (r : Rp K mg B m H w v) : ∀ {ws : List W} {vs : List V} (i : Nat), Rps K mg B m H ws vs → Rps K mg B m H (ws.set i w) (vs.set i v)
  | _, _, _, .nil => .nil
  | _, _, 0, .cons _ t => .cons r t
  | _, _, i + 1, .cons q t => .cons q (Rps.set r i t)
theorem Rps.eraseIdx : ∀ {ws : List W} {vs : List V} (i : Nat), Rps K mg B m H ws vs → Rps K mg B m H (ws.eraseIdx i) (vs.eraseIdx i)
  | _, _, _, .nil => .nil
  | _, _, 0, .cons _ t => t
  | _, _, i + 1, .cons q t => .cons q (Rps.eraseIdx i t)
theorem Rps.snoc {ws : List W} {vs : List V} {w : W} {v : V} (r : Rps K mg B m H ws vs) (h : Rp K mg B m H w v) : Rps K mg B m H (ws ++ [w]) (vs ++ [v]) := r.append (.cons h .nil)
theorem Rps.reverse : ∀ {ws : List W} {vs : List V}, Rps K mg B m H ws vs → Rps K mg B m H ws.reverse vs.reverse
  | _, _, .nil => .nil
  | _, _, .cons r t => by
    rw [List.reverse_cons, List.reverse_cons]
    exact (Rps.reverse t).snoc r
theorem Rps.rep {ws : List W} {vs : List V} (r : Rps K mg B m H ws vs) : ∀ k : Nat, Rps K mg B m H (List.replicate k ws).flatten (List.replicate k vs).flatten
  | 0 => .nil
  | k + 1 => by
    rw [List.replicate_succ, List.replicate_succ, List.flatten_cons, List.flatten_cons]
    exact r.append (Rps.rep r k)
theorem Rps.dropLast {ws : List W} {vs : List V} (r : Rps K mg B m H ws vs) : Rps K mg B m H ws.dropLast vs.dropLast := by
  rw [List.dropLast_eq_take, List.dropLast_eq_take, r.length]
  exact r.take _
theorem RpO.mono (x : Stp B m H B1 m1 H1) (sub : ∀ a ∈ m, B a) {w : Option W} {v : Option V} (h : RpO K mg B m H w v) : RpO K mg B1 m1 H1 w v := by
  cases w with
  | none => trivial
  | some w =>
    cases v with
    | none => exact h
    | some v => exact Rp.mono x sub h
theorem EvR.mono (x : Stp B m H B1 m1 H1) (sub : ∀ a ∈ m, B a) {r : Ev} {s : St} (h : EvR K mg B m H r s) : EvR K mg B1 m1 H1 r s := Paired.mapP h fun _ _ q => RpO.mono x sub q
theorem EvR.get : ∀ {r : Ev} {s : St} {i : Nat} {w : W}, EvR K mg B m H r s → r[i]? = some (some w) → ∃ v, s[i]? = some (some v) ∧ Rp K mg B m H w v
  | _, _, _, _, .nil, e => by simp at e
  | _, _, 0, _, .cons (b := b) r _, e => by
    simp at e; subst e
    cases b with
    | none => exact False.elim r
    | some v => exact ⟨_, rfl, r⟩
  | _, _, i + 1, w, .cons _ t, e => by
    obtain ⟨v, h1, h2⟩ := EvR.get (i := i) (w := w) t (by simpa using e)
    exact ⟨v, by simpa using h1, h2⟩
theorem EvR.set {w : W} {v : V} (r : Rp K mg B m H w v) : ∀ {e : Ev} {s : St} (i : Nat), EvR K mg B m H e s → EvR K mg B m H (e.set i (some w)) (s.set i (some v))
  | _, _, _, .nil => .nil
  | _, _, 0, .cons _ t => .cons r t
  | _, _, i + 1, .cons q t => .cons q (EvR.set r i t)
theorem EvR.unset : ∀ {e : Ev} {s : St} (i : Nat), EvR K mg B m H e s → EvR K mg B m H (e.set i none) (s.set i none)
  | _, _, _, .nil => .nil
  | _, _, 0, .cons _ t => .cons trivial t
  | _, _, i + 1, .cons q t => .cons q (EvR.unset i t)
theorem OR.mono (x : Stp B m H B1 m1 H1) (sub : ∀ a ∈ m, B a) {o : Ob} (e : ∀ u, H a = some u → H1 a = some u) (h : OR K mg B m H a o) : OR K mg B1 m1 H1 a o := by
  cases o with
  | lst ws => obtain ⟨vs, h1, h2⟩ := h; exact ⟨vs, e _ h1, h2.mono x sub⟩
  | dK kvs => obtain ⟨vs, h1, h2⟩ := h; exact ⟨vs, e _ h1, Paired.mapP h2 fun _ _ q => ⟨q.1, q.2.mono x sub⟩⟩
  | dT kvs => obtain ⟨vs, h1, h2⟩ := h; exact ⟨vs, e _ h1, Paired.mapP h2 fun _ _ q => ⟨q.1, q.2.mono x sub⟩⟩
  | ins c fs => obtain ⟨C, dx, vs, h0, h1, h2⟩ := h; exact ⟨C, dx, vs, h0, e _ h1, Paired.mapP h2 fun _ _ q => ⟨q.1, q.2.mono x sub⟩⟩
theorem Rel.none_of (r : Rel K mg B m S H) (h : H p = none) : ¬ B p := fun z => by
  obtain ⟨o, q⟩ := r.trk p z
  rw [h] at q; cases q
/-- a new thing that stays as it is -/
theorem Stp.frz (r : Rel K mg B m S H) (h : H p = none) (o : HO) : Stp B m H B m (upd H p o) :=
  ⟨⟨[], by simp, by simp⟩, fun _ h => h, fun _ h n => absurd h n, fun a u q _ => by rw [upd_ne (ne_of_none q h)]; exact q, fun a u q => ⟨u, by rw [upd_ne (ne_of_none q h)]; exact q⟩⟩
theorem Rel.frz (r : Rel K mg B m S H) (h : H p = none) (o : HO) : Rel K mg B m S (upd H p o) :=
  ⟨r.nodup, r.len, r.inB, fun a z => by
    obtain ⟨u, q⟩ := r.trk a z
    exact ⟨u, by rw [upd_ne (ne_of_none q h)]; exact q⟩, fun k a u e1 e2 => (r.obj k a u e1 e2).mono (Stp.frz r h o) r.inB fun z q => by rw [upd_ne (ne_of_none q h)]; exact q⟩
/-- a new thing that may change -/
theorem Stp.alloc (r : Rel K mg B m S H) (h : H p = none) (o : HO) : Stp B m H (fun a => B a ∨ a = p) (m ++ [p]) (upd H p o) :=
  ⟨⟨[p], rfl, fun a z => by rw [List.mem_singleton.mp z]; exact h⟩, fun _ h => .inl h, fun a z n => z.elim (fun z => absurd z n) fun z => by rw [z]; exact h,
    fun a u q _ => by rw [upd_ne (ne_of_none q h)]; exact q, fun a u q => ⟨u, by rw [upd_ne (ne_of_none q h)]; exact q⟩⟩
theorem Rel.alloc (r : Rel K mg B m S H) (h : H p = none) {o : HO} {ob : Ob} (new : OR K mg (fun a => B a ∨ a = p) (m ++ [p]) (upd H p o) p ob) : Rel K mg (fun a => B a ∨ a = p) (m ++ [p]) (S ++ [ob]) (upd H p o) := by
  have hp : p ∉ m := fun z => r.none_of h (r.inB p z)
  refine ⟨?_, by simp [r.len], fun a z => ?_, fun a z => ?_, fun k a u e1 e2 => ?_⟩
  · rw [List.nodup_append]
    refine ⟨r.nodup, by simp, fun a ha b hb e => ?_⟩
    rw [List.mem_singleton.mp hb] at e
    subst e
    exact hp ha
  · rcases List.mem_append.mp z with z | z
    · exact .inl (r.inB a z)
    · exact .inr (List.mem_singleton.mp z)
  · rcases z with z | z
    · obtain ⟨u, q⟩ := r.trk a z
      exact ⟨u, by rw [upd_ne (ne_of_none q h)]; exact q⟩
    · subst z
      exact ⟨o, upd_same⟩
  · by_cases hk : k < m.length
    · rw [List.getElem?_append_left hk] at e1
      rw [List.getElem?_append_left (by rw [← r.len]; exact hk)] at e2
      exact (r.obj k a u e1 e2).mono (Stp.alloc r h o) r.inB fun z q => by rw [upd_ne (ne_of_none q h)]; exact q
    · have hk2 : k = m.length := by
        have := (List.getElem?_eq_some_iff.mp e1).1
        simp at this
        omega
      subst hk2
      rw [List.getElem?_append_right (Nat.le_refl _)] at e1
      rw [r.len, List.getElem?_append_right (Nat.le_refl _)] at e2
      simp at e1 e2
      subst e1 e2
      exact new
theorem Stp.write (r : Rel K mg B m S H) {k : Nat} (h : m[k]? = some a) (o : HO) : Stp B m H B m (upd H a o) := by
  have ha : a ∈ m := List.mem_of_getElem? h
  refine ⟨⟨[], by simp, by simp⟩, fun _ h => h, fun _ h n => absurd h n, fun b u q n => ?_, fun b u q => ?_⟩
  · have hne : b ≠ a := fun z => n (by rw [z]; exact ha)
    rw [upd_ne hne]; exact q
  · by_cases e : b = a
    · subst e; exact ⟨o, upd_same⟩
    · exact ⟨u, by rw [upd_ne e]; exact q⟩
theorem Rel.write (r : Rel K mg B m S H) {k : Nat} (h : m[k]? = some a) {o : HO} {ob : Ob} (new : OR K mg B m (upd H a o) a ob) : Rel K mg B m (S.set k ob) (upd H a o) := by
  have ha : a ∈ m := List.mem_of_getElem? h
  refine ⟨r.nodup, by simp [r.len], r.inB, fun b z => ?_, fun j b u e1 e2 => ?_⟩
  · obtain ⟨u, q⟩ := r.trk b z
    exact (Stp.write r h o).there b u q
  · by_cases hj : j = k
    · subst hj
      rw [h] at e1; cases e1
      rw [List.getElem?_set_self (by rw [← r.len]; exact (List.getElem?_eq_some_iff.mp h).1)] at e2
      cases e2
      exact new
    · rw [List.getElem?_set_ne (Ne.symm hj)] at e2
      have hne : b ≠ a := fun z => by
        subst z
        have h1 := List.getElem?_eq_some_iff.mp h
        have h2 := List.getElem?_eq_some_iff.mp e1
        exact hj ((List.getElem_inj r.nodup).mp (h2.2.trans h1.2.symm))
      exact (r.obj j b u e1 e2).mono (Stp.write r h o) r.inB fun z q => by rw [upd_ne hne]; exact q
theorem Rel.at (r : Rel K mg B m S H) {k : Nat} {o : Ob} (h : S[k]? = some o) : ∃ a, m[k]? = some a ∧ OR K mg B m H a o := by
  have hk : k < m.length := by rw [r.len]; exact (List.getElem?_eq_some_iff.mp h).1
  exact ⟨m[k], List.getElem?_eq_getElem hk, r.obj k _ o (List.getElem?_eq_getElem hk) h⟩
end
end Zw
set_option maxRecDepth 100000
namespace Zw
open PySem L2

abbrev EM := Ev → Sto → Option (W × Sto)
abbrev TM := Ev → Sto → Option (Bool × Sto)
abbrev AM := Ev → Sto → Option (List W × Sto)
abbrev GM := W → W → Sto → Option (W × Sto)
inductive Fl where
  | nx | rt (w : W) | bk | ct
abbrev SM := Ev → Sto → Option (Fl × Ev × Sto)

section
variable (X : Cx)
def RE (t : TE) (M : EM) : Prop := ∀ B m r s S H (Q : VK) w S', Rel X.K X.mg B m S H → EvR X.K X.mg B m H r s → M r S = some (w, S') →
  (∀ B' m' H' v, Stp B m H B' m' H' → Rel X.K X.mg B' m' S' H' → Rp X.K X.mg B' m' H' w v → Q v H') → t s H Q
def RT (t : TT) (M : TM) : Prop := ∀ B m r s S H (Q : Bool → Hp → Prop) b S', Rel X.K X.mg B m S H → EvR X.K X.mg B m H r s → M r S = some (b, S') →
  (∀ B' m' H', Stp B m H B' m' H' → Rel X.K X.mg B' m' S' H' → Q b H') → t s H Q
def RA (t : TA) (M : AM) : Prop := ∀ B m r s S H (Q : List V → Hp → Prop) ws S', Rel X.K X.mg B m S H → EvR X.K X.mg B m H r s → M r S = some (ws, S') →
  (∀ B' m' H' vs, Stp B m H B' m' H' → Rel X.K X.mg B' m' S' H' → Rps X.K X.mg B' m' H' ws vs → Q vs H') → t s H Q
/-- what follows a statement -/
def Then (D : Ends) (f : Fl) (r' : Ev) (S' : Sto) (B : Addr → Prop) (m : List Addr) (H : Hp) : Prop := match f with
  | .nx => ∀ B' m' H' s', Stp B m H B' m' H' → Rel X.K X.mg B' m' S' H' → EvR X.K X.mg B' m' H' r' s' → D.nx s' H'
  | .bk => ∀ B' m' H' s', Stp B m H B' m' H' → Rel X.K X.mg B' m' S' H' → EvR X.K X.mg B' m' H' r' s' → D.bk s' H'
  | .ct => ∀ B' m' H' s', Stp B m H B' m' H' → Rel X.K X.mg B' m' S' H' → EvR X.K X.mg B' m' H' r' s' → D.ct s' H'
  | .rt w => ∀ B' m' H' v, Stp B m H B' m' H' → Rel X.K X.mg B' m' S' H' → Rp X.K X.mg B' m' H' w v → D.rt v H'
def RS (t : TS) (M : SM) : Prop := ∀ B m r s S H (D : Ends) f r' S', Rel X.K X.mg B m S H → EvR X.K X.mg B m H r s → M r S = some (f, r', S') → Then X D f r' S' B m H → t D s H
structure PEw (e : Expr) (M : EM) : Prop where
  ex : ∃ t, PE X e t ∧ RE X t M
structure PTw (e : Expr) (M : TM) : Prop where
  ex : ∃ t, PT X e t ∧ RT X t M
structure PWw (e : Expr) (M : TM) : Prop where
  ex : ∃ t, PW X e t ∧ RT X t M
structure PAw (es : List Expr) (M : AM) : Prop where
  ex : ∃ t, PA X es t ∧ RA X t M
structure PSw (st : Stmt) (M : SM) : Prop where
  ex : ∃ t, PS X st t ∧ RS X t M
structure PSsw (st : List Stmt) (M : SM) : Prop where
  ex : ∃ t, PSs X st t ∧ RS X t M
/-- an operator by values -/
def OpG (r : R2) (g : GM) : Prop := ∀ B m S H x y vx vy (Q : VK) w S', Rel X.K X.mg B m S H → Rp X.K X.mg B m H x vx → Rp X.K X.mg B m H y vy → g x y S = some (w, S') →
  (∀ B' m' H' v, Stp B m H B' m' H' → Rel X.K X.mg B' m' S' H' → Rp X.K X.mg B' m' H' w v → Q v H') → r vx vy H Q
def OpW (f : Value → Value → Sem Value) (g : GM) : Prop := ∃ r, OpR X f r ∧ OpG X r g
def IxW (g : GM) : Prop := ∃ r, IxR X r ∧ OpG X r g
def UnG (r : V → Hp → VK → Prop) (g : W → Sto → Option (W × Sto)) : Prop := ∀ B m S H x vx (Q : VK) w S', Rel X.K X.mg B m S H → Rp X.K X.mg B m H x vx → g x S = some (w, S') →
  (∀ B' m' H' v, Stp B m H B' m' H' → Rel X.K X.mg B' m' S' H' → Rp X.K X.mg B' m' H' w v → Q v H') → r vx H Q
def UnW (f : Value → Sem Value) (g : W → Sto → Option (W × Sto)) : Prop := ∃ r, UnR X f r ∧ UnG X r g
def CallG (r : List V → Hp → VK → Prop) (g : List W → Sto → Option (W × Sto)) : Prop := ∀ B m S H ws vs (Q : VK) w S', Rel X.K X.mg B m S H → Rps X.K X.mg B m H ws vs → g ws S = some (w, S') →
  (∀ B' m' H' v, Stp B m H B' m' H' → Rel X.K X.mg B' m' S' H' → Rp X.K X.mg B' m' H' w v → Q v H') → r vs H Q
def CallW (f : Value) (g : List W → Sto → Option (W × Sto)) : Prop := ∃ r, CallR X f r ∧ CallG X r g
def MtG (r : V → List V → Hp → VK → Prop) (g : W → List W → Sto → Option (W × Sto)) : Prop := ∀ B m S H x vx ws vs (Q : VK) w S', Rel X.K X.mg B m S H → Rp X.K X.mg B m H x vx → Rps X.K X.mg B m H ws vs → g x ws S = some (w, S') →
  (∀ B' m' H' v, Stp B m H B' m' H' → Rel X.K X.mg B' m' S' H' → Rp X.K X.mg B' m' H' w v → Q v H') → r vx vs H Q
def MtW (id : String) (g : W → List W → Sto → Option (W × Sto)) : Prop := ∃ r, MtR X id r ∧ MtG X r g
end

/-! ### expressions -/
def mVar (i : Nat) (r : Ev) (S : Sto) : Option (W × Sto) := match r[i]? with
  | some (some w) => some (w, S)
  | _ => none
def mC (w : W) (_ : Ev) (S : Sto) : Option (W × Sto) := some (w, S)
def mOp (g : GM) (a b : EM) (r : Ev) (S : Sto) : Option (W × Sto) := (a r S).bind fun p => (b r p.2).bind fun q => g p.1 q.1 q.2
def mUn (g : W → Sto → Option (W × Sto)) (a : EM) : EM := fun r S => (a r S).bind fun p => g p.1 p.2
def mNil (_ : Ev) (S : Sto) : Option (List W × Sto) := some ([], S)
def mCons (a : EM) (b : AM) (r : Ev) (S : Sto) : Option (List W × Sto) := (a r S).bind fun p => (b r p.2).bind fun q => some (p.1 :: q.1, q.2)
def mB (a : EM) (r : Ev) (S : Sto) : Option (Bool × Sto) := (a r S).bind fun p => match p.1 with
  | .bl b => some (b, p.2)
  | _ => none
@[simp] def truW (w : W) (S : Sto) : Option Bool := match w with
  | .non => some false
  | .bl b => some b
  | .int i => some (i != 0)
  | .str y => if y.length ≤ sizeLine then some ((y.length : Int) != 0) else none
  | .tup ws => some (!ws.isEmpty)
  | .lst ws => some (!ws.isEmpty)
  | .lsr ws => some (!ws.isEmpty)
  | .ref k => match S[k]? with
    | some (.lst ws) => some (!ws.isEmpty)
    | some (.dK kvs) => some (!kvs.isEmpty)
    | _ => none
  | _ => none
def mTru (a : EM) (r : Ev) (S : Sto) : Option (Bool × Sto) := (a r S).bind fun p => (truW p.1 p.2).bind fun b => some (b, p.2)
def mAndT (a b : TM) (r : Ev) (S : Sto) : Option (Bool × Sto) := (a r S).bind fun p => if p.1 = true then b r p.2 else some (false, p.2)
def mOrT (a b : TM) (r : Ev) (S : Sto) : Option (Bool × Sto) := (a r S).bind fun p => if p.1 = true then some (true, p.2) else b r p.2
def mNotT (a : TM) (r : Ev) (S : Sto) : Option (Bool × Sto) := (a r S).bind fun p => some (!p.1, p.2)
def mAnd (a b : EM) (r : Ev) (S : Sto) : Option (W × Sto) := (a r S).bind fun p => (truW p.1 p.2).bind fun k => if k = true then b r p.2 else some (p.1, p.2)
def mOr (a b : EM) (r : Ev) (S : Sto) : Option (W × Sto) := (a r S).bind fun p => (truW p.1 p.2).bind fun k => if k = true then some (p.1, p.2) else b r p.2
def mNot (a : EM) (r : Ev) (S : Sto) : Option (W × Sto) := (a r S).bind fun p => (truW p.1 p.2).bind fun k => some (.bl (!k), p.2)
def mIfE (c : TM) (a b : EM) (r : Ev) (S : Sto) : Option (W × Sto) := (c r S).bind fun p => if p.1 = true then a r p.2 else b r p.2
def mTup (a : AM) (r : Ev) (S : Sto) : Option (W × Sto) := (a r S).bind fun p => if p.1.length ≤ sizeLine then some (.tup p.1, p.2) else none
/-- a list that stays as it is; one that may change -/
def mLst (a : AM) (r : Ev) (S : Sto) : Option (W × Sto) := (a r S).bind fun p => if p.1.length ≤ sizeLine then some (.lst p.1, p.2) else none
def mLstM (a : AM) (r : Ev) (S : Sto) : Option (W × Sto) := (a r S).bind fun p => if p.1.length ≤ sizeLine then some (.ref p.2.length, p.2 ++ [.lst p.1]) else none

section
variable {X : Cx} {e a b c : Expr} {es : List Expr} {ma mb mc : EM} {ta tb : TM} {ms : AM} {pos : Pos}
theorem Rp.tru {B : Addr → Prop} {m : List Addr} {S : Sto} {H : Hp} {w : W} {v : V} {k : Bool} (R : Rel X.K X.mg B m S H) (p : Rp X.K X.mg B m H w v) (h : truW w S = some k) : TruV X.K v H k := by
  cases p with
  | non => simp only [truW, Option.some.injEq] at h; exact h.symm
  | bl b => simp only [truW, Option.some.injEq] at h; exact h.symm
  | int i => simp only [truW, Option.some.injEq] at h; exact h.symm
  | str y =>
    simp only [truW] at h
    split at h
    · rename_i hy
      exact ⟨hy, (Option.some.inj h).symm⟩
    · cases h
  | @tup a ws vs f r =>
    simp only [truW, Option.some.injEq] at h
    refine .inr (.inl ⟨vs, f.seq, ?_⟩)
    rw [← h]; cases r <;> rfl
  | @lst a ws vs n f r =>
    simp only [truW, Option.some.injEq] at h
    refine .inl ⟨vs, SqL.of f, ?_⟩
    rw [← h]; cases r <;> rfl
  | @lsr a ws vs f r =>
    simp only [truW, Option.some.injEq] at h
    refine .inl ⟨vs, f.seq, ?_⟩
    rw [← h]; cases r <;> rfl
  | ins _ _ _ _ _ => simp [truW] at h
  | glo _ => simp [truW] at h
  | ty _ => simp [truW] at h
  | @ref a k hk =>
    simp only [truW] at h
    split at h
    · rename_i ws hs
      obtain ⟨a', h1, vs, h2, h3⟩ := R.at hs
      rw [hk] at h1; cases h1
      refine .inl ⟨vs, SqL.of h2, ?_⟩
      rw [← Option.some.inj h]; cases h3 <;> rfl
    · rename_i kvs hs
      obtain ⟨a', h1, vs, h2, h3⟩ := R.at hs
      rw [hk] at h1; cases h1
      refine .inr (.inr ⟨vs, h2, ?_⟩)
      rw [← Option.some.inj h]; cases h3 <;> rfl
    · cases h
theorem w_var (i : Nat) {x : Str} (hN : X.N[i]? = some x := by rfl) (hv : Vis X.env.scope x := by first | exact Or.inl rfl | exact Or.inr (Or.inl rfl) | exact Or.inr (Or.inr rfl)) (hd : (x == ("__debug__" : Str)) = false := by decide)
    (hcd : (x == ("__classdict__" : Str)) = false := by decide) : PEw X (.Name x pos) (mVar i) := by
  refine ⟨_, pe_var (i := i) hN hv hd hcd, ?_⟩
  intro B m r s S H Q w S' R E h k
  simp only [mVar] at h
  split at h
  · rename_i w' hw
    cases h
    obtain ⟨v, h1, h2⟩ := E.get hw
    exact ⟨v, h1, k B m H v .refl R h2⟩
  · cases h
theorem w_int {i j} : PEw X (.Constant (.int i) j pos) (mC (.int i)) := ⟨_, pe_int, fun B m r s S H Q w S' R E h k => by cases h; exact k B m H _ .refl R (.int i)⟩
theorem w_bl {i j} : PEw X (.Constant (.bool i) j pos) (mC (.bl i)) := ⟨_, pe_bl, fun B m r s S H Q w S' R E h k => by cases h; exact k B m H _ .refl R (.bl i)⟩
theorem w_non {j} : PEw X (.Constant .none j pos) (mC .non) := ⟨_, pe_non, fun B m r s S H Q w S' R E h k => by cases h; exact k B m H _ .refl R .non⟩
theorem w_str {i j} : PEw X (.Constant (.str i) j pos) (mC (.str i)) := ⟨_, pe_str, fun B m r s S H Q w S' R E h k => by cases h; exact k B m H _ .refl R (.str i)⟩
/-- a module's constant -/
theorem w_glob {x : Str} {w : W} {v : V} {u : Value} (hg : Gl X x) (hm : X.mg x = some u) (rv : RelV v u) (rw' : ∀ B m S H, Rel X.K X.mg B m S H → Rp X.K X.mg B m H w v) (hd : (x == ("__debug__" : Str)) = false := by decide) : PEw X (.Name x pos) (mC w) :=
  ⟨_, pe_glob hg hm rv hd, fun B m r s S H Q w' S' R E h k => by cases h; exact k B m H _ .refl R (rw' B m S H R)⟩
theorem w_op {op : Operator} {g : GM} (ho : OpW X (binaryOp op) g) (ha : PEw X a ma) (hb : PEw X b mb) : PEw X (.BinOp a op b pos) (mOp g ma mb) := by
  obtain ⟨r, ho, hr⟩ := ho
  obtain ⟨ta, ha, ra⟩ := ha
  obtain ⟨tb, hb, rb⟩ := hb
  refine ⟨_, pe_op ho ha hb, ?_⟩
  intro B m r s S H Q w S' R E h k
  simp only [mOp, Option.bind_eq_some_iff] at h
  obtain ⟨⟨x, S1⟩, h1, ⟨y, S2⟩, h2, h3⟩ := h
  refine ra B m r s S H _ x S1 R E h1 fun B1 m1 H1 vx s1 R1 p1 => ?_
  refine rb B1 m1 r s S1 H1 _ y S2 R1 (E.mono s1 R.inB) h2 fun B2 m2 H2 vy s2 R2 p2 => ?_
  exact hr B2 m2 S2 H2 x y vx vy Q w S' R2 (p1.mono s2 R1.inB) p2 h3 fun B3 m3 H3 v s3 R3 p3 => k B3 m3 H3 v ((s1.trans s2).trans s3) R3 p3
theorem w_un {op : UnaryOp} {g : W → Sto → Option (W × Sto)} (ho : UnW X (unaryOp op) g) (ha : PEw X a ma) : PEw X (.UnaryOp op a pos) (mUn g ma) := by
  obtain ⟨r, ho, hr⟩ := ho
  obtain ⟨ta, ha, ra⟩ := ha
  refine ⟨_, pe_un ho ha, ?_⟩
  intro B m r s S H Q w S' R E h k
  simp only [mUn, Option.bind_eq_some_iff] at h
  obtain ⟨⟨x, S1⟩, h1, h3⟩ := h
  refine ra B m r s S H _ x S1 R E h1 fun B1 m1 H1 vx s1 R1 p1 => ?_
  exact hr B1 m1 S1 H1 x vx Q w S' R1 p1 h3 fun B3 m3 H3 v s3 R3 p3 => k B3 m3 H3 v (s1.trans s3) R3 p3
theorem w_cmp {op : CmpOp} {g : GM} (ho : OpW X (compareOp op) g) (ha : PEw X a ma) (hb : PEw X b mb) (hm : behindInMarks op b = false := by first | exact nomark _ (by decide) (by decide) | rfl) : PEw X (.Compare a [op] [b] pos) (mOp g ma mb) := by
  obtain ⟨r, ho, hr⟩ := ho
  obtain ⟨ta, ha, ra⟩ := ha
  obtain ⟨tb, hb, rb⟩ := hb
  refine ⟨_, pe_cmpR ho ha hb hm, ?_⟩
  intro B m r s S H Q w S' R E h k
  simp only [mOp, Option.bind_eq_some_iff] at h
  obtain ⟨⟨x, S1⟩, h1, ⟨y, S2⟩, h2, h3⟩ := h
  refine ra B m r s S H _ x S1 R E h1 fun B1 m1 H1 vx s1 R1 p1 => ?_
  refine rb B1 m1 r s S1 H1 _ y S2 R1 (E.mono s1 R.inB) h2 fun B2 m2 H2 vy s2 R2 p2 => ?_
  exact hr B2 m2 S2 H2 x y vx vy Q w S' R2 (p1.mono s2 R1.inB) p2 h3 fun B3 m3 H3 v s3 R3 p3 => k B3 m3 H3 v ((s1.trans s2).trans s3) R3 p3
theorem wt_cmp {op : CmpOp} {g : GM} (ho : OpW X (compareOp op) g) (ha : PEw X a ma) (hb : PEw X b mb) (hm : behindInMarks op b = false := by first | exact nomark _ (by decide) (by decide) | rfl) : PTw X (.Compare a [op] [b] pos) (mB (mOp g ma mb)) := by
  obtain ⟨r, ho, hr⟩ := ho
  obtain ⟨ta, ha, ra⟩ := ha
  obtain ⟨tb, hb, rb⟩ := hb
  refine ⟨_, pt_cmpR ho ha hb hm, ?_⟩
  intro B m r s S H Q w S' R E h k
  simp only [mB, mOp, Option.bind_eq_some_iff] at h
  obtain ⟨⟨z, S3⟩, ⟨⟨x, S1⟩, h1, ⟨y, S2⟩, h2, h3⟩, h4⟩ := h
  simp only at h3 h4
  split at h4
  · rename_i bb
    cases h4
    refine ra B m r s S H _ x S1 R E h1 fun B1 m1 H1 vx s1 R1 p1 => ?_
    refine rb B1 m1 r s S1 H1 _ y S2 R1 (E.mono s1 R.inB) h2 fun B2 m2 H2 vy s2 R2 p2 => ?_
    refine hr B2 m2 S2 H2 x y vx vy _ _ _ R2 (p1.mono s2 R1.inB) p2 h3 fun B3 m3 H3 v s3 R3 p3 => ?_
    cases p3
    exact ⟨_, rfl, k B3 m3 H3 ((s1.trans s2).trans s3) R3⟩
  · cases h4
def mChain (g g' : GM) (a b c : EM) (r : Ev) (S : Sto) : Option (W × Sto) := (a r S).bind fun p => (b r p.2).bind fun q => (g p.1 q.1 q.2).bind fun z => match z.1 with
  | .bl true => (c r z.2).bind fun u => g' q.1 u.1 u.2
  | .bl false => some (.bl false, z.2)
  | _ => none
theorem w_chain {op op' : CmpOp} {g g' : GM} (ho : OpW X (compareOp op) g) (ho' : OpW X (compareOp op') g') (ha : PEw X a ma) (hb : PEw X b mb) (hc : PEw X c mc)
    (h1 : lastMarks [op, op'] [b, c] = false := by with_unfolding_all rfl) : PEw X (.Compare a [op, op'] [b, c] pos) (mChain g g' ma mb mc) := by
  obtain ⟨r, ho, hr⟩ := ho
  obtain ⟨r', ho', hr'⟩ := ho'
  obtain ⟨ta, ha, ra⟩ := ha
  obtain ⟨tb, hb, rb⟩ := hb
  obtain ⟨tc, hc, rc⟩ := hc
  refine ⟨_, pe_chain ho ho' ha hb hc h1, ?_⟩
  intro B m r s S H Q w S' R E h k
  simp only [mChain, Option.bind_eq_some_iff] at h
  obtain ⟨⟨x, S1⟩, h1, ⟨y, S2⟩, h2, ⟨z, S3⟩, h3, h4⟩ := h
  refine ra B m r s S H _ x S1 R E h1 fun B1 m1 H1 vx s1 R1 p1 => ?_
  refine rb B1 m1 r s S1 H1 _ y S2 R1 (E.mono s1 R.inB) h2 fun B2 m2 H2 vy s2 R2 p2 => ?_
  refine hr B2 m2 S2 H2 x y vx vy _ _ _ R2 (p1.mono s2 R1.inB) p2 h3 fun B3 m3 H3 v s3 R3 p3 => ?_
  simp only at h4
  split at h4
  · simp only [Option.bind_eq_some_iff] at h4
    obtain ⟨⟨u, S4⟩, h5, h6⟩ := h4
    cases p3
    refine ⟨true, rfl, ?_⟩
    rw [if_pos rfl]
    refine rc B3 m3 r s S3 H3 _ u S4 R3 (((E.mono s1 R.inB).mono s2 R1.inB).mono s3 R2.inB) h5 fun B4 m4 H4 vu s4 R4 p4 => ?_
    exact hr' B4 m4 S4 H4 y u vy vu _ _ _ R4 ((p2.mono s3 R2.inB).mono s4 R3.inB) p4 h6 fun B5 m5 H5 v5 s5 R5 p5 => k B5 m5 H5 v5 ((((s1.trans s2).trans s3).trans s4).trans s5) R5 p5
  · cases h4
    cases p3
    refine ⟨false, rfl, ?_⟩
    rw [if_neg (by decide)]
    exact k B3 m3 H3 _ ((s1.trans s2).trans s3) R3 (.bl false)
  · cases h4
theorem wt_chain {op op' : CmpOp} {g g' : GM} (ho : OpW X (compareOp op) g) (ho' : OpW X (compareOp op') g') (ha : PEw X a ma) (hb : PEw X b mb) (hc : PEw X c mc)
    (h1 : lastMarks [op, op'] [b, c] = false := by with_unfolding_all rfl) : PTw X (.Compare a [op, op'] [b, c] pos) (mB (mChain g g' ma mb mc)) := by
  obtain ⟨r, ho, hr⟩ := ho
  obtain ⟨r', ho', hr'⟩ := ho'
  obtain ⟨ta, ha, ra⟩ := ha
  obtain ⟨tb, hb, rb⟩ := hb
  obtain ⟨tc, hc, rc⟩ := hc
  refine ⟨_, pt_chain ho ho' ha hb hc h1, ?_⟩
  intro B m r s S H Q w S' R E h k
  simp only [mB, mChain, Option.bind_eq_some_iff] at h
  obtain ⟨⟨zz, S5⟩, ⟨⟨x, S1⟩, h1, ⟨y, S2⟩, h2, ⟨z, S3⟩, h3, h4⟩, h7⟩ := h
  simp only at h4 h7
  split at h7
  · cases h7
    refine ra B m r s S H _ x S1 R E h1 fun B1 m1 H1 vx s1 R1 p1 => ?_
    refine rb B1 m1 r s S1 H1 _ y S2 R1 (E.mono s1 R.inB) h2 fun B2 m2 H2 vy s2 R2 p2 => ?_
    refine hr B2 m2 S2 H2 x y vx vy _ _ _ R2 (p1.mono s2 R1.inB) p2 h3 fun B3 m3 H3 v s3 R3 p3 => ?_
    split at h4
    · simp only [Option.bind_eq_some_iff] at h4
      obtain ⟨⟨u, S4⟩, h5, h6⟩ := h4
      cases p3
      refine ⟨true, rfl, ?_⟩
      rw [if_pos rfl]
      refine rc B3 m3 r s S3 H3 _ u S4 R3 (((E.mono s1 R.inB).mono s2 R1.inB).mono s3 R2.inB) h5 fun B4 m4 H4 vu s4 R4 p4 => ?_
      refine hr' B4 m4 S4 H4 y u vy vu _ _ _ R4 ((p2.mono s3 R2.inB).mono s4 R3.inB) p4 h6 fun B5 m5 H5 v5 s5 R5 p5 => ?_
      cases p5
      exact ⟨_, rfl, k B5 m5 H5 ((((s1.trans s2).trans s3).trans s4).trans s5) R5⟩
    · cases h4
      cases p3
      refine ⟨false, rfl, ?_⟩
      rw [if_neg (by decide)]
      exact ⟨_, rfl, k B3 m3 H3 ((s1.trans s2).trans s3) R3⟩
    · cases h4
  · cases h7
theorem wt_tru (ha : PEw X a ma) (he : ∀ whole, isTrue a X.env whole = (do let v ← whole; standAt a.pos; holding [v] (truthy v)) := by intro _; rfl) : PTw X a (mTru ma) := by
  obtain ⟨ta, ha, ra⟩ := ha
  refine ⟨_, pt_truth ha he, ?_⟩
  intro B m r s S H Q w S' R E h k
  simp only [mTru, Option.bind_eq_some_iff] at h
  obtain ⟨⟨x, S1⟩, h1, b, h2, h3⟩ := h
  cases h3
  exact ra B m r s S H _ x S1 R E h1 fun B1 m1 H1 vx s1 R1 p1 => ⟨_, p1.tru R1 h2, k B1 m1 H1 s1 R1⟩
theorem PWw.pt (h : PWw X a ta) : PTw X a ta := let ⟨t, h1, h2⟩ := h.ex; ⟨t, h1.pt, h2⟩
theorem ww_and1 (ha : PTw X a ta) : PWw X (.BoolOp .And [a] pos) ta := let ⟨t, h1, h2⟩ := ha.ex; ⟨t, pw_and1 h1, h2⟩
theorem ww_or1 (ha : PTw X a ta) : PWw X (.BoolOp .Or [a] pos) ta := let ⟨t, h1, h2⟩ := ha.ex; ⟨t, pw_or1 h1, h2⟩
theorem ww_and {rest : List Expr} (ha : PTw X a ta) (hb : PWw X (.BoolOp .And (b :: rest) pos) tb) : PWw X (.BoolOp .And (a :: b :: rest) pos) (mAndT ta tb) := by
  obtain ⟨ua, ha, ra⟩ := ha
  obtain ⟨ub, hb, rb⟩ := hb
  refine ⟨_, pw_and ha hb, ?_⟩
  intro B m r s S H Q w S' R E h k
  simp only [mAndT, Option.bind_eq_some_iff] at h
  obtain ⟨⟨x, S1⟩, h1, h2⟩ := h
  refine ra B m r s S H _ x S1 R E h1 fun B1 m1 H1 s1 R1 => ?_
  simp only at h2
  split at h2
  · rename_i hx
    rw [if_pos hx]
    exact rb B1 m1 r s S1 H1 _ w S' R1 (E.mono s1 R.inB) h2 fun B2 m2 H2 s2 R2 => k B2 m2 H2 (s1.trans s2) R2
  · rename_i hx
    rw [if_neg hx]
    cases h2
    exact k B1 m1 H1 s1 R1
theorem ww_or {rest : List Expr} (ha : PTw X a ta) (hb : PWw X (.BoolOp .Or (b :: rest) pos) tb) : PWw X (.BoolOp .Or (a :: b :: rest) pos) (mOrT ta tb) := by
  obtain ⟨ua, ha, ra⟩ := ha
  obtain ⟨ub, hb, rb⟩ := hb
  refine ⟨_, pw_or ha hb, ?_⟩
  intro B m r s S H Q w S' R E h k
  simp only [mOrT, Option.bind_eq_some_iff] at h
  obtain ⟨⟨x, S1⟩, h1, h2⟩ := h
  refine ra B m r s S H _ x S1 R E h1 fun B1 m1 H1 s1 R1 => ?_
  simp only at h2
  split at h2
  · rename_i hx
    rw [if_pos hx]
    cases h2
    exact k B1 m1 H1 s1 R1
  · rename_i hx
    rw [if_neg hx]
    exact rb B1 m1 r s S1 H1 _ w S' R1 (E.mono s1 R.inB) h2 fun B2 m2 H2 s2 R2 => k B2 m2 H2 (s1.trans s2) R2
theorem wt_not (ha : PTw X a ta) : PTw X (.UnaryOp .Not a pos) (mNotT ta) := by
  obtain ⟨ua, ha, ra⟩ := ha
  refine ⟨_, pt_not ha, ?_⟩
  intro B m r s S H Q w S' R E h k
  simp only [mNotT, Option.bind_eq_some_iff] at h
  obtain ⟨⟨x, S1⟩, h1, h2⟩ := h
  cases h2
  exact ra B m r s S H _ x S1 R E h1 fun B1 m1 H1 s1 R1 => k B1 m1 H1 s1 R1
theorem w_one {op} (ha : PEw X a ma) : PEw X (.BoolOp op [a] pos) ma := let ⟨t, h1, h2⟩ := ha.ex; ⟨t, pe_one h1, h2⟩
theorem w_and {rest : List Expr} (ha : PEw X a ma) (hb : PEw X (.BoolOp .And (b :: rest) pos) mb) : PEw X (.BoolOp .And (a :: b :: rest) pos) (mAnd ma mb) := by
  obtain ⟨ua, ha, ra⟩ := ha
  obtain ⟨ub, hb, rb⟩ := hb
  refine ⟨_, pe_andT ha hb, ?_⟩
  intro B m r s S H Q w S' R E h k
  simp only [mAnd, Option.bind_eq_some_iff] at h
  obtain ⟨⟨x, S1⟩, h1, c, h2, h3⟩ := h
  refine ra B m r s S H _ x S1 R E h1 fun B1 m1 H1 vx s1 R1 p1 => ⟨c, p1.tru R1 h2, ?_⟩
  split at h3
  · rename_i hx
    rw [if_pos hx]
    exact rb B1 m1 r s S1 H1 _ w S' R1 (E.mono s1 R.inB) h3 fun B2 m2 H2 v s2 R2 p2 => k B2 m2 H2 v (s1.trans s2) R2 p2
  · rename_i hx
    rw [if_neg hx]
    cases h3
    exact k B1 m1 H1 vx s1 R1 p1
theorem w_or {rest : List Expr} (ha : PEw X a ma) (hb : PEw X (.BoolOp .Or (b :: rest) pos) mb) : PEw X (.BoolOp .Or (a :: b :: rest) pos) (mOr ma mb) := by
  obtain ⟨ua, ha, ra⟩ := ha
  obtain ⟨ub, hb, rb⟩ := hb
  refine ⟨_, pe_orT ha hb, ?_⟩
  intro B m r s S H Q w S' R E h k
  simp only [mOr, Option.bind_eq_some_iff] at h
  obtain ⟨⟨x, S1⟩, h1, c, h2, h3⟩ := h
  refine ra B m r s S H _ x S1 R E h1 fun B1 m1 H1 vx s1 R1 p1 => ⟨c, p1.tru R1 h2, ?_⟩
  split at h3
  · rename_i hx
    rw [if_pos hx]
    cases h3
    exact k B1 m1 H1 vx s1 R1 p1
  · rename_i hx
    rw [if_neg hx]
    exact rb B1 m1 r s S1 H1 _ w S' R1 (E.mono s1 R.inB) h3 fun B2 m2 H2 v s2 R2 p2 => k B2 m2 H2 v (s1.trans s2) R2 p2
theorem w_not (ha : PEw X a ma) : PEw X (.UnaryOp .Not a pos) (mNot ma) := by
  obtain ⟨ua, ha, ra⟩ := ha
  refine ⟨_, pe_notT ha, ?_⟩
  intro B m r s S H Q w S' R E h k
  simp only [mNot, Option.bind_eq_some_iff] at h
  obtain ⟨⟨x, S1⟩, h1, c, h2, h3⟩ := h
  cases h3
  exact ra B m r s S H _ x S1 R E h1 fun B1 m1 H1 vx s1 R1 p1 => ⟨c, p1.tru R1 h2, k B1 m1 H1 _ s1 R1 (.bl _)⟩
theorem w_ifE (hc : PTw X c ta) (ha : PEw X a ma) (hb : PEw X b mb) : PEw X (.IfExp c a b pos) (mIfE ta ma mb) := by
  obtain ⟨uc, hc, rc⟩ := hc
  obtain ⟨ua, ha, ra⟩ := ha
  obtain ⟨ub, hb, rb⟩ := hb
  refine ⟨_, pe_ifExp hc ha hb, ?_⟩
  intro B m r s S H Q w S' R E h k
  simp only [mIfE, Option.bind_eq_some_iff] at h
  obtain ⟨⟨x, S1⟩, h1, h2⟩ := h
  refine rc B m r s S H _ x S1 R E h1 fun B1 m1 H1 s1 R1 => ?_
  simp only at h2
  split at h2
  · rename_i hx
    rw [if_pos hx]
    exact ra B1 m1 r s S1 H1 _ w S' R1 (E.mono s1 R.inB) h2 fun B2 m2 H2 v s2 R2 p2 => k B2 m2 H2 v (s1.trans s2) R2 p2
  · rename_i hx
    rw [if_neg hx]
    exact rb B1 m1 r s S1 H1 _ w S' R1 (E.mono s1 R.inB) h2 fun B2 m2 H2 v s2 R2 p2 => k B2 m2 H2 v (s1.trans s2) R2 p2
theorem wa_nil : PAw X [] mNil := ⟨_, pa_nil, fun B m r s S H Q w S' R E h k => by cases h; exact k B m H [] .refl R .nil⟩
theorem wa_cons (ha : PEw X e ma) (hr : PAw X es ms) (hs : starEach (e :: es) X.env = (false, eval e X.env) :: starEach es X.env := by rfl) : PAw X (e :: es) (mCons ma ms) := by
  obtain ⟨ua, ha, ra⟩ := ha
  obtain ⟨ub, hb, rb⟩ := hr
  refine ⟨_, pa_cons ha hb hs, ?_⟩
  intro B m r s S H Q w S' R E h k
  simp only [mCons, Option.bind_eq_some_iff] at h
  obtain ⟨⟨x, S1⟩, h1, ⟨y, S2⟩, h2, h3⟩ := h
  cases h3
  refine ra B m r s S H _ x S1 R E h1 fun B1 m1 H1 vx s1 R1 p1 => ?_
  exact rb B1 m1 r s S1 H1 _ y S2 R1 (E.mono s1 R.inB) h2 fun B2 m2 H2 vs s2 R2 p2 => k B2 m2 H2 _ (s1.trans s2) R2 (.cons (p1.mono s2 R1.inB) p2)
theorem w_tup {x1} (h : PAw X es ms) : PEw X (.Tuple es x1 pos) (mTup ms) := by
  obtain ⟨ub, hb, rb⟩ := h
  refine ⟨_, pe_tup hb, ?_⟩
  intro B m r s S H Q w S' R E h k
  simp only [mTup, Option.bind_eq_some_iff] at h
  obtain ⟨⟨ws, S1⟩, h1, h2⟩ := h
  simp only at h2
  split at h2
  · rename_i hl
    cases h2
    refine rb B m r s S H _ ws _ R E h1 fun B2 m2 H2 vs s2 R2 p2 => ⟨by rw [← p2.length]; exact hl, fun p hp => ?_⟩
    have st := Stp.frz R2 hp (.tup vs)
    exact k B2 m2 _ _ (s2.trans st) (R2.frz hp _) (.tup (.inl ⟨R2.none_of hp, .inl upd_same⟩) (p2.mono st R2.inB))
  · cases h2
theorem w_lst (h : PAw X es ms) : PEw X (.List es pos) (mLst ms) := by
  obtain ⟨ub, hb, rb⟩ := h
  refine ⟨_, pe_lst hb, ?_⟩
  intro B m r s S H Q w S' R E h k
  simp only [mLst, Option.bind_eq_some_iff] at h
  obtain ⟨⟨ws, S1⟩, h1, h2⟩ := h
  simp only at h2
  split at h2
  · rename_i hl
    cases h2
    refine rb B m r s S H _ ws _ R E h1 fun B2 m2 H2 vs s2 R2 p2 => ⟨by rw [← p2.length]; exact hl, fun p hp => ?_⟩
    have st := Stp.frz R2 hp (.lst vs)
    exact k B2 m2 _ _ (s2.trans st) (R2.frz hp _) (.lst (R2.none_of hp) upd_same (p2.mono st R2.inB))
  · cases h2
theorem Rel.newAt {B : Addr → Prop} {m : List Addr} {S : Sto} {H : Hp} (R : Rel X.K X.mg B m S H) {p : Addr} : (m ++ [p])[S.length]? = some p := by
  rw [← R.len, List.getElem?_append_right (Nat.le_refl _)]; simp
theorem w_lstM (h : PAw X es ms) : PEw X (.List es pos) (mLstM ms) := by
  obtain ⟨ub, hb, rb⟩ := h
  refine ⟨_, pe_lst hb, ?_⟩
  intro B m r s S H Q w S' R E h k
  simp only [mLstM, Option.bind_eq_some_iff] at h
  obtain ⟨⟨ws, S1⟩, h1, h2⟩ := h
  simp only at h2
  split at h2
  · rename_i hl
    cases h2
    refine rb B m r s S H _ ws _ R E h1 fun B2 m2 H2 vs s2 R2 p2 => ⟨by rw [← p2.length]; exact hl, fun p hp => ?_⟩
    have st := Stp.alloc R2 hp (.lst vs)
    exact k _ _ _ _ (s2.trans st) (R2.alloc hp (ob := .lst ws) ⟨vs, upd_same, p2.mono st R2.inB⟩) (.ref R2.newAt)
  · cases h2
end
end Zw
set_option maxRecDepth 100000
namespace Zw
open PySem L2

/-! ### what a value is -/
@[simp] def lstOf (S : Sto) : W → Option (List W)
  | .lst ws => some ws
  | .ref k => match S[k]? with
    | some (.lst ws) => some ws
    | _ => none
  | _ => none
@[simp] def seqOf (S : Sto) : W → Option (List W)
  | .lst ws => some ws
  | .lsr ws => some ws
  | .ref k => match S[k]? with
    | some (.lst ws) => some ws
    | _ => none
  | _ => none
section
variable {X : Cx} {B : Addr → Prop} {m : List Addr} {S : Sto} {H : Hp} {x y w : W} {v vx vy : V} {ws : List W} {vs : List V}
theorem lst_at (R : Rel X.K X.mg B m S H) (p : Rp X.K X.mg B m H x v) (h : lstOf S x = some ws) : ∃ a vs, v = .ref a ∧ H a = some (.lst vs) ∧ Rps X.K X.mg B m H ws vs := by
  cases p with
  | lst n e r => simp only [lstOf, Option.some.injEq] at h; subst h; exact ⟨_, _, rfl, e, r⟩
  | ref hk =>
    simp only [lstOf] at h
    split at h
    · rename_i ws' hs
      cases h
      obtain ⟨a', h1, vs, h2, h3⟩ := R.at hs
      rw [hk] at h1; cases h1
      exact ⟨_, _, rfl, h2, h3⟩
    · cases h
  | _ => simp [lstOf] at h
theorem seq_at (R : Rel X.K X.mg B m S H) (p : Rp X.K X.mg B m H x v) (h : seqOf S x = some ws) : ∃ a vs, v = .ref a ∧ SqL X.K H a vs ∧ Rps X.K X.mg B m H ws vs := by
  cases p with
  | lst n e r => simp only [seqOf, Option.some.injEq] at h; subst h; exact ⟨_, _, rfl, SqL.of e, r⟩
  | lsr e r => simp only [seqOf, Option.some.injEq] at h; subst h; exact ⟨_, _, rfl, e.seq, r⟩
  | ref hk =>
    simp only [seqOf] at h
    split at h
    · rename_i ws' hs
      cases h
      obtain ⟨a', h1, vs, h2, h3⟩ := R.at hs
      rw [hk] at h1; cases h1
      exact ⟨_, _, rfl, SqL.of h2, h3⟩
    · cases h
  | _ => simp [seqOf] at h
end

/-! ### operators -/
section
variable {X : Cx}
theorem OpG.or {r r' : R2} {g : GM} (h : ∀ B m S H x y vx vy (Q : VK) w S', Rel X.K X.mg B m S H → Rp X.K X.mg B m H x vx → Rp X.K X.mg B m H y vy → g x y S = some (w, S') →
  (∀ B' m' H' v, Stp B m H B' m' H' → Rel X.K X.mg B' m' S' H' → Rp X.K X.mg B' m' H' w v → Q v H') → r vx vy H Q ∨ r' vx vy H Q) : OpG X (fun x y H Q => r x y H Q ∨ r' x y H Q) g := h
@[simp] def iiW (f : Int → Int → W) (x y : W) (S : Sto) : Option (W × Sto) := match x, y with
  | .int i, .int j => some (f i j, S)
  | _, _ => none
theorem op_ii {f : Value → Value → Sem Value} {g : Int → Int → W} {gv : Int → Int → V} (h : OpR X f (rI0 gv)) (hg : ∀ B m H i j, Rp X.K X.mg B m H (g i j) (gv i j)) : OpW X f (iiW g) := by
  refine ⟨_, h, ?_⟩
  intro B m S H x y vx vy Q w S' R px py e k
  cases px <;> cases py <;> simp only [iiW, Option.some.injEq, Prod.mk.injEq, reduceCtorEq] at e
  obtain ⟨rfl, rfl⟩ := e
  exact ⟨_, _, rfl, rfl, k B m H _ .refl R (hg ..)⟩
@[simp] def subW : GM := iiW fun i j => .int (i - j)
theorem o_sub : OpW X (binaryOp .Sub) subW := op_ii op_sub fun _ _ _ _ _ => .int _
@[simp] def ltW : GM := iiW fun i j => .bl (decide (i < j))
@[simp] def leW : GM := iiW fun i j => .bl (decide (i ≤ j))
@[simp] def gtW : GM := iiW fun i j => .bl (decide (j < i))
@[simp] def geW : GM := iiW fun i j => .bl (decide (j ≤ i))
theorem o_lt : OpW X (compareOp .Lt) ltW := op_ii op_lt fun _ _ _ _ _ => .bl _
theorem o_le : OpW X (compareOp .LtE) leW := op_ii op_le fun _ _ _ _ _ => .bl _
theorem o_gt : OpW X (compareOp .Gt) gtW := op_ii op_gt fun _ _ _ _ _ => .bl _
theorem o_ge : OpW X (compareOp .GtE) geW := op_ii op_ge fun _ _ _ _ _ => .bl _
@[simp] def bandW : GM := iiW fun i j => .int (Builtin.bitAnd i j)
@[simp] def borW : GM := iiW fun i j => .int (Builtin.bitOr i j)
theorem o_band : OpW X (binaryOp .BitAnd) bandW := op_ii op_and fun _ _ _ _ _ => .int _
theorem o_bor : OpW X (binaryOp .BitOr) borW := op_ii op_or fun _ _ _ _ _ => .int _
@[simp] def iicW (C : Int → Int → Prop) [∀ i j, Decidable (C i j)] (f : Int → Int → W) (x y : W) (S : Sto) : Option (W × Sto) := match x, y with
  | .int i, .int j => if C i j then some (f i j, S) else none
  | _, _ => none
theorem op_iic {f : Value → Value → Sem Value} {C : Int → Int → Prop} [∀ i j, Decidable (C i j)] {g : Int → Int → W} {gv : Int → Int → V} (h : OpR X f (rI C gv)) (hg : ∀ B m H i j, Rp X.K X.mg B m H (g i j) (gv i j)) : OpW X f (iicW C g) := by
  refine ⟨_, h, ?_⟩
  intro B m S H x y vx vy Q w S' R px py e k
  cases px <;> cases py <;> simp only [iicW, reduceCtorEq] at e
  split at e
  · rename_i hc
    cases e
    exact ⟨_, _, rfl, rfl, hc, k B m H _ .refl R (hg ..)⟩
  · cases e
instance (i j : Int) : Decidable (CMul i j) := by unfold CMul; exact inferInstance
instance (i j : Int) : Decidable (CMulW i j) := by unfold CMulW; exact inferInstance
instance (i j : Int) : Decidable (CDivW i j) := by unfold CDivW; exact inferInstance
instance (i j : Int) : Decidable (CDivN i j) := by unfold CDivN; exact inferInstance
instance (i j : Int) : Decidable (CPow i j) := by unfold CPow; exact inferInstance
def CMulA (i j : Int) : Prop := CMul i j ∨ CMulW i j
instance (i j : Int) : Decidable (CMulA i j) := by unfold CMulA; exact inferInstance
theorem op_mulA : OpR X (binaryOp .Mult) (rI CMulA fun i j => .int (i * j)) := opI fun _ _ _ _ _ _ _ hc q => PyProof.Rows.mul_int q (hc.elim CMul.ok CMulW.ok)
/-- ints; a list that stays, a tuple: repeated -/
@[simp] def mulW (x y : W) (S : Sto) : Option (W × Sto) := match x, y with
  | .int i, .int j => if CMulA i j then some (.int (i * j), S) else none
  | x, .int k => match lstOf S x with
    | some xs => if -(2 ^ 63) ≤ k ∧ k < 2 ^ 63 ∧ xs.length * k.toNat ≤ sizeLine then some (.lst (List.replicate k.toNat xs).flatten, S) else none
    | none => none
  | _, _ => none
theorem o_mul : OpW X (binaryOp .Mult) mulW := by
  refine ⟨_, op_mulA.or op_rep, ?_⟩
  refine .or ?_
  intro B m S H x y vx vy Q w S' R px py e k
  unfold mulW at e
  split at e
  · split at e
    · rename_i hc
      cases e
      cases px; cases py
      exact .inl ⟨_, _, rfl, rfl, hc, k B m H _ .refl R (.int _)⟩
    · cases e
  · split at e
    · rename_i xs hxs
      split at e
      · rename_i hc
        cases e
        cases py
        obtain ⟨a, vs, rfl, ha, ps⟩ := lst_at R px hxs
        refine .inr ⟨_, _, _, rfl, rfl, ha, hc.1, hc.2.1, by rw [← ps.length]; exact hc.2.2, fun p hp => ?_⟩
        exact k B m _ _ (Stp.frz R hp _) (R.frz hp _) (.lst (R.none_of hp) upd_same ((ps.rep _).mono (Stp.frz R hp _) R.inB))
      · cases e
    · cases e
  · cases e
/-- a list that may change -/
@[simp] def mulM (x y : W) (S : Sto) : Option (W × Sto) := match y with
  | .int k => match lstOf S x with
    | some xs => if -(2 ^ 63) ≤ k ∧ k < 2 ^ 63 ∧ xs.length * k.toNat ≤ sizeLine then some (.ref S.length, S ++ [.lst (List.replicate k.toNat xs).flatten]) else none
    | none => none
  | _ => none
theorem o_mulM : OpW X (binaryOp .Mult) mulM := by
  refine ⟨_, op_rep, ?_⟩
  intro B m S H x y vx vy Q w S' R px py e k
  unfold mulM at e
  split at e
  · split at e
    · rename_i xs hxs
      split at e
      · rename_i hc
        cases e
        cases py
        obtain ⟨a, vs, rfl, ha, ps⟩ := lst_at R px hxs
        refine ⟨_, _, _, rfl, rfl, ha, hc.1, hc.2.1, by rw [← ps.length]; exact hc.2.2, fun p hp => ?_⟩
        exact k _ _ _ _ (Stp.alloc R hp _) (R.alloc hp (ob := .lst _) ⟨_, upd_same, (ps.rep _).mono (Stp.alloc R hp _) R.inB⟩) (.ref R.newAt)
      · cases e
    · cases e
  · cases e
@[simp] def powW : GM := iicW CPow fun i j => .int (i ^ j.toNat)
theorem o_pow : OpW X (binaryOp .Pow) powW := op_iic op_pow fun _ _ _ _ _ => .int _
@[simp] def shlW : GM := iicW CPow fun i j => .int (i * 2 ^ j.toNat)
theorem o_shl : OpW X (binaryOp .LShift) shlW := op_iic op_shl fun _ _ _ _ _ => .int _
/-- // : a divisor above nought, or any small one -/
@[simp] def fdivW (x y : W) (S : Sto) : Option (W × Sto) := match x, y with
  | .int i, .int j => if CDivW i j then some (.int (i / j), S) else if CDivN i j then some (.int (i.fdiv j), S) else none
  | _, _ => none
theorem o_fdiv : OpW X (binaryOp .FloorDiv) fdivW := by
  refine ⟨_, op_fdivW.or op_fdivN, ?_⟩
  refine .or ?_
  intro B m S H x y vx vy Q w S' R px py e k
  unfold fdivW at e
  split at e
  · split at e
    · rename_i hc
      cases e
      cases px; cases py
      exact .inl ⟨_, _, rfl, rfl, hc, k B m H _ .refl R (.int _)⟩
    · split at e
      · rename_i hc
        cases e
        cases px; cases py
        exact .inr ⟨_, _, rfl, rfl, hc, k B m H _ .refl R (.int _)⟩
      · cases e
  · cases e
@[simp] def modW (x y : W) (S : Sto) : Option (W × Sto) := match x, y with
  | .int i, .int j => if 0 < j then some (.int (i % j), S) else if j ≠ 0 then some (.int (i.fmod j), S) else none
  | _, _ => none
theorem o_mod : OpW X (binaryOp .Mod) modW := by
  refine ⟨_, op_mod.or op_modN, ?_⟩
  refine .or ?_
  intro B m S H x y vx vy Q w S' R px py e k
  unfold modW at e
  split at e
  · split at e
    · rename_i hc
      cases e
      cases px; cases py
      exact .inl ⟨_, _, rfl, rfl, hc, k B m H _ .refl R (.int _)⟩
    · split at e
      · rename_i hc
        cases e
        cases px; cases py
        exact .inr ⟨_, _, rfl, rfl, hc, k B m H _ .refl R (.int _)⟩
      · cases e
  · cases e
/-- + : ints, texts, tuples, lists (a list that stays) -/
@[simp] def addW (x y : W) (S : Sto) : Option (W × Sto) := match x, y with
  | .int i, .int j => some (.int (i + j), S)
  | .str a, .str b => if a.length + b.length ≤ sizeLine then some (.str (a ++ b), S) else none
  | .tup xs, .tup ys => if xs.length + ys.length ≤ sizeLine then some (.tup (xs ++ ys), S) else none
  | x, y => match lstOf S x, lstOf S y with
    | some xs, some ys => if xs.length + ys.length ≤ sizeLine then some (.lst (xs ++ ys), S) else none
    | _, _ => none
theorem o_add : OpW X (binaryOp .Add) addW := by
  refine ⟨_, (op_add.or op_add_str).or (op_catA.or op_cat), ?_⟩
  refine .or ?_
  intro B m S H x y vx vy Q w S' R px py e k
  unfold addW at e
  split at e
  · cases e
    cases px; cases py
    exact .inl (.inl ⟨_, _, rfl, rfl, k B m H _ .refl R (.int _)⟩)
  · split at e
    · rename_i hc
      cases e
      cases px; cases py
      exact .inl (.inr ⟨_, _, rfl, rfl, hc, k B m H _ .refl R (.str _)⟩)
    · cases e
  · split at e
    · rename_i hc
      cases e
      cases px with
      | tup fa pa =>
      cases py with
      | tup fb pb =>
      refine .inr (.inl ⟨_, _, _, _, rfl, rfl, fa.seq, fb.seq, by rw [← pa.length, ← pb.length]; exact hc, ?_⟩)
      refine ⟨fun hx => ?_, fun hx hy => ?_, fun hx hy p hp => ?_⟩
      · cases pa with
        | nil => exact k B m H _ .refl R (.tup fb pb)
        | cons _ _ => cases hx
      · cases pb with
        | nil => rw [List.append_nil] at k; exact k B m H _ .refl R (.tup fa pa)
        | cons _ _ => cases hy
      · exact k B m _ _ (Stp.frz R hp _) (R.frz hp _) (.tup (.inl ⟨R.none_of hp, .inl upd_same⟩) ((pa.append pb).mono (Stp.frz R hp _) R.inB))
    · cases e
  · split at e
    · rename_i xs ys hxs hys
      split at e
      · rename_i hc
        cases e
        obtain ⟨a, va, rfl, ha, pa⟩ := lst_at R px hxs
        obtain ⟨b, vb, rfl, hb, pb⟩ := lst_at R py hys
        refine .inr (.inr ⟨_, _, _, _, rfl, rfl, ha, hb, by rw [← pa.length, ← pb.length]; exact hc, fun p hp => ?_⟩)
        have st := Stp.frz R hp (.lst (va ++ vb))
        exact k B m _ _ st (R.frz hp _) (.lst (R.none_of hp) upd_same ((pa.append pb).mono st R.inB))
      · cases e
    · cases e
/-- lists + lists, the sum may change -/
@[simp] def addM (x y : W) (S : Sto) : Option (W × Sto) := match lstOf S x, lstOf S y with
    | some xs, some ys => if xs.length + ys.length ≤ sizeLine then some (.ref S.length, S ++ [.lst (xs ++ ys)]) else none
    | _, _ => none
theorem o_addM : OpW X (binaryOp .Add) addM := by
  refine ⟨_, op_cat, ?_⟩
  intro B m S H x y vx vy Q w S' R px py e k
  unfold addM at e
  split at e
  · rename_i xs ys hxs hys
    split at e
    · rename_i hc
      cases e
      obtain ⟨a, va, rfl, ha, pa⟩ := lst_at R px hxs
      obtain ⟨b, vb, rfl, hb, pb⟩ := lst_at R py hys
      refine ⟨_, _, _, _, rfl, rfl, ha, hb, by rw [← pa.length, ← pb.length]; exact hc, fun p hp => ?_⟩
      have st := Stp.alloc R hp (.lst (va ++ vb))
      exact k _ _ _ _ st (R.alloc hp (ob := .lst _) ⟨_, upd_same, (pa.append pb).mono st R.inB⟩) (.ref R.newAt)
    · cases e
  · cases e

/-! ### == -/
@[simp] def eqS : W → W → Option Bool
  | .non, .non => some true
  | .non, .int _ => some false
  | .int _, .non => some false
  | .non, .bl _ => some false
  | .bl _, .non => some false
  | .non, .str _ => some false
  | .str _, .non => some false
  | .int i, .int j => some (decide (i = j))
  | .bl i, .bl j => some (decide (i = j))
  | .str i, .str j => some (decide (i = j))
  | .int _, .str _ => some false
  | .str _, .int _ => some false
  | .bl _, .str _ => some false
  | .str _, .bl _ => some false
  | _, _ => none
mutual
def pd : W → Option PyData
  | .non => some .none
  | .bl b => some (.bool b)
  | .int i => some (.int i)
  | .str x => some (.str x)
  | .tup ws => (pds ws).map .tuple
  | .lst ws => (pds ws).map .list
  | .lsr ws => (pds ws).map .list
  | _ => none
def pds : List W → Option (List PyData)
  | [] => some []
  | w :: ws => (pd w).bind fun d => (pds ws).map fun ds => d :: ds
end
def pdS (S : Sto) : W → Option PyData
  | .ref k => match S[k]? with
    | some (.lst ws) => (pds ws).map .list
    | _ => none
  | w => pd w
mutual
theorem Rp.dp {K : PySem.W.Frag} {mg : Str → Option Value} {B : Addr → Prop} {m : List Addr} {H : Hp} : ∀ {w : W} {v : V} {d : PyData}, Rp K mg B m H w v → pd w = some d → Dp K H v d
  | _, _, _, .non, e => by simp only [pd, Option.some.injEq] at e; subst e; exact .non
  | _, _, _, .bl b, e => by simp only [pd, Option.some.injEq] at e; subst e; exact .bl b
  | _, _, _, .int b, e => by simp only [pd, Option.some.injEq] at e; subst e; exact .int b
  | _, _, _, .str b, e => by simp only [pd, Option.some.injEq] at e; subst e; exact .str b
  | _, _, _, .tup f r, e => by
    simp only [pd, Option.map_eq_some_iff] at e
    obtain ⟨ds, h1, rfl⟩ := e
    exact .tup f.seq (Rps.dp r h1)
  | _, _, _, .lst n f r, e => by
    simp only [pd, Option.map_eq_some_iff] at e
    obtain ⟨ds, h1, rfl⟩ := e
    exact .lst (SqL.of f) (Rps.dp r h1)
  | _, _, _, .lsr f r, e => by
    simp only [pd, Option.map_eq_some_iff] at e
    obtain ⟨ds, h1, rfl⟩ := e
    exact .lst f.seq (Rps.dp r h1)
  | _, _, _, .ins _ _ _ _ _, e => by simp [pd] at e
  | _, _, _, .glo _, e => by simp [pd] at e
  | _, _, _, .ty _, e => by simp [pd] at e
  | _, _, _, .ref _, e => by simp [pd] at e
theorem Rps.dp {K : PySem.W.Frag} {mg : Str → Option Value} {B : Addr → Prop} {m : List Addr} {H : Hp} : ∀ {ws : List W} {vs : List V} {ds : List PyData}, Rps K mg B m H ws vs → pds ws = some ds → DpAll K H vs ds
  | _, _, _, .nil, e => by simp only [pds, Option.some.injEq] at e; subst e; exact .nil
  | _, _, _, .cons r t, e => by
    simp only [pds, Option.bind_eq_some_iff, Option.map_eq_some_iff] at e
    obtain ⟨d, h1, ds, h2, rfl⟩ := e
    exact .cons (Rp.dp r h1) (Rps.dp t h2)
end
theorem dp_at {B : Addr → Prop} {m : List Addr} {S : Sto} {H : Hp} {x : W} {v : V} {d : PyData} (R : Rel X.K X.mg B m S H) (p : Rp X.K X.mg B m H x v) (h : pdS S x = some d) : Dp X.K H v d := by
  cases p with
  | ref hk =>
    simp only [pdS] at h
    split at h
    · rename_i ws hs
      simp only [Option.map_eq_some_iff] at h
      obtain ⟨ds, h1, rfl⟩ := h
      obtain ⟨a', h2, vs, h3, h4⟩ := R.at hs
      rw [hk] at h2; cases h2
      exact .lst (SqL.of h3) (h4.dp h1)
    · cases h
  | non => exact Rp.dp (K := X.K) (mg := X.mg) (B := B) (m := m) .non h
  | bl b => exact Rp.dp (K := X.K) (mg := X.mg) (B := B) (m := m) (.bl b) h
  | int b => exact Rp.dp (K := X.K) (mg := X.mg) (B := B) (m := m) (.int b) h
  | str b => exact Rp.dp (K := X.K) (mg := X.mg) (B := B) (m := m) (.str b) h
  | tup f r => exact Rp.dp (.tup f r) h
  | lst n f r => exact Rp.dp (.lst n f r) h
  | lsr f r => exact Rp.dp (.lsr f r) h
  | ins n g e l r => simp [pdS, pd] at h
  | glo g => simp [pdS, pd] at h
  | ty g => simp [pdS, pd] at h
@[simp] def eqB (x y : W) (S : Sto) : Option Bool := match eqS x y with
  | some b => some b
  | none => match pdS S x, pdS S y with
    | some d, some e => if (SeqAt.shaped d && SeqAt.shaped e) = true then some (PyData.eqv d e) else none
    | _, _ => none
def eqW (x y : W) (S : Sto) : Option (W × Sto) := (eqB x y S).map fun b => (.bl b, S)
def neW (x y : W) (S : Sto) : Option (W × Sto) := (eqB x y S).map fun b => (.bl (!b), S)
theorem eqS_scal {B : Addr → Prop} {m : List Addr} {H : Hp} {x y : W} {vx vy : V} {b : Bool} (px : Rp X.K X.mg B m H x vx) (py : Rp X.K X.mg B m H y vy) (h : eqS x y = some b) : scal vx vy = true ∧ b = decide (vx = vy) := by
  cases px <;> cases py <;> simp only [eqS, Option.some.injEq, reduceCtorEq] at h <;> subst h <;> simp [scal]
theorem o_eq (hu : X.A.units + 64 < cLine) : OpW X (compareOp .Eq) eqW := by
  refine ⟨_, op_eq.or (op_eqD hu), ?_⟩
  refine .or ?_
  intro B m S H x y vx vy Q w S' R px py e k
  simp only [eqW, Option.map_eq_some_iff] at e
  obtain ⟨b, h1, e⟩ := e
  cases e
  unfold eqB at h1
  split at h1
  · rename_i b' hb
    cases h1
    obtain ⟨z1, z2⟩ := eqS_scal px py hb
    subst z2
    exact .inl ⟨z1, k B m H _ .refl R (.bl _)⟩
  · split at h1
    · rename_i d e' hd he
      split at h1
      · rename_i hs
        cases h1
        rw [Bool.and_eq_true] at hs
        exact .inr ⟨d, e', dp_at R px hd, dp_at R py he, hs.1, hs.2, k B m H _ .refl R (.bl _)⟩
      · cases h1
    · cases h1
theorem o_ne (hu : X.A.units + 64 < cLine) : OpW X (compareOp .NotEq) neW := by
  refine ⟨_, op_ne.or (op_neD hu), ?_⟩
  refine .or ?_
  intro B m S H x y vx vy Q w S' R px py e k
  simp only [neW, Option.map_eq_some_iff] at e
  obtain ⟨b, h1, e⟩ := e
  cases e
  unfold eqB at h1
  split at h1
  · rename_i b' hb
    cases h1
    obtain ⟨z1, z2⟩ := eqS_scal px py hb
    subst z2
    exact .inl ⟨z1, k B m H _ .refl R (.bl _)⟩
  · split at h1
    · rename_i d e' hd he
      split at h1
      · rename_i hs
        cases h1
        rw [Bool.and_eq_true] at hs
        exact .inr ⟨d, e', dp_at R px hd, dp_at R py he, hs.1, hs.2, k B m H _ .refl R (.bl _)⟩
      · cases h1
    · cases h1
/-! ### is None, in -/
@[simp] def isNonB : W → Bool
  | .non => true
  | _ => false
@[simp] def isNW (x y : W) (S : Sto) : Option (W × Sto) := match y with
  | .non => some (.bl (isNonB x), S)
  | _ => none
@[simp] def notNW (x y : W) (S : Sto) : Option (W × Sto) := match y with
  | .non => some (.bl (!isNonB x), S)
  | _ => none
theorem isNon_of {B : Addr → Prop} {m : List Addr} {H : Hp} {x : W} {vx : V} (px : Rp X.K X.mg B m H x vx) : isNonB x = decide (vx = .non) := by
  cases px <;> simp [isNonB]
theorem o_isN : OpW X (compareOp .Is) isNW := by
  refine ⟨_, op_isN, ?_⟩
  intro B m S H x y vx vy Q w S' R px py e k
  unfold isNW at e
  split at e
  · cases e
    cases py
    exact ⟨rfl, k B m H _ .refl R (by rw [isNon_of px]; exact .bl _)⟩
  · cases e
theorem o_notN : OpW X (compareOp .IsNot) notNW := by
  refine ⟨_, op_notN, ?_⟩
  intro B m S H x y vx vy Q w S' R px py e k
  unfold notNW at e
  split at e
  · cases e
    cases py
    exact ⟨rfl, k B m H _ .refl R (by rw [isNon_of px]; exact .bl _)⟩
  · cases e
/-- == of flat things -/
@[simp] def eqF : W → W → Bool
  | .non, .non => true
  | .bl a, .bl b => a == b
  | .bl a, .int b => (if a then 1 else 0) == b
  | .int a, .bl b => a == (if b then 1 else 0)
  | .int a, .int b => a == b
  | .str a, .str b => a == b
  | _, _ => false
@[simp] def flatS : W → Bool
  | .non => true
  | .bl _ => true
  | .int _ => true
  | .str _ => true
  | _ => false
@[simp] def allOf (S : Sto) : W → Option (List W)
  | .lst ws => some ws
  | .lsr ws => some ws
  | .tup ws => some ws
  | .ref k => match S[k]? with
    | some (.lst ws) => some ws
    | _ => none
  | _ => none
theorem all_at {B : Addr → Prop} {m : List Addr} {S : Sto} {H : Hp} {x : W} {v : V} {ws : List W} (R : Rel X.K X.mg B m S H) (p : Rp X.K X.mg B m H x v) (h : allOf S x = some ws) : ∃ a vs, v = .ref a ∧ (SqL X.K H a vs ∨ SqT X.K H a vs) ∧ Rps X.K X.mg B m H ws vs := by
  cases p with
  | lst n e r => simp only [allOf, Option.some.injEq] at h; subst h; exact ⟨_, _, rfl, .inl (SqL.of e), r⟩
  | lsr e r => simp only [allOf, Option.some.injEq] at h; subst h; exact ⟨_, _, rfl, .inl e.seq, r⟩
  | tup e r => simp only [allOf, Option.some.injEq] at h; subst h; exact ⟨_, _, rfl, .inr e.seq, r⟩
  | ref hk =>
    simp only [allOf] at h
    split at h
    · rename_i ws' hs
      cases h
      obtain ⟨a', h1, vs, h2, h3⟩ := R.at hs
      rw [hk] at h1; cases h1
      exact ⟨_, _, rfl, .inl (SqL.of h2), h3⟩
    · cases h
  | _ => simp [allOf] at h
theorem flatS_of {B : Addr → Prop} {m : List Addr} {H : Hp} {x : W} {vx : V} (px : Rp X.K X.mg B m H x vx) : flatS x = flatV vx := by
  cases px <;> rfl
theorem eqF_of {B : Addr → Prop} {m : List Addr} {H : Hp} {x y : W} {vx vy : V} (px : Rp X.K X.mg B m H x vx) (py : Rp X.K X.mg B m H y vy) : eqF x y = eqV vx vy := by
  cases px <;> cases py <;> rfl
theorem flatS_all {B : Addr → Prop} {m : List Addr} {H : Hp} : ∀ {ws : List W} {vs : List V}, Rps X.K X.mg B m H ws vs → ws.all flatS = vs.all flatV
  | _, _, .nil => rfl
  | _, _, .cons r t => by rw [List.all_cons, List.all_cons, flatS_of r, flatS_all t]
theorem eqF_any {B : Addr → Prop} {m : List Addr} {H : Hp} {x : W} {vx : V} (px : Rp X.K X.mg B m H x vx) : ∀ {ws : List W} {vs : List V}, Rps X.K X.mg B m H ws vs → (ws.any fun y => eqF y x) = vs.any fun y => eqV y vx
  | _, _, .nil => rfl
  | _, _, .cons r t => by rw [List.any_cons, List.any_cons, eqF_of r px, eqF_any px t]
@[simp] def inB (x y : W) (S : Sto) : Option Bool := match allOf S y with
  | some ws => if (flatS x && ws.all flatS) = true then some (ws.any fun z => eqF z x) else none
  | none => none
def inW (x y : W) (S : Sto) : Option (W × Sto) := (inB x y S).map fun b => (.bl b, S)
def notInW (x y : W) (S : Sto) : Option (W × Sto) := (inB x y S).map fun b => (.bl (!b), S)
theorem o_in : OpW X (compareOp .In) inW := by
  refine ⟨_, op_in_seq, ?_⟩
  intro B m S H x y vx vy Q w S' R px py e k
  simp only [inW, Option.map_eq_some_iff] at e
  obtain ⟨b, h1, e⟩ := e
  cases e
  unfold inB at h1
  split at h1
  · rename_i ws hws
    split at h1
    · rename_i hf
      cases h1
      rw [Bool.and_eq_true] at hf
      obtain ⟨a, vs, rfl, ha, ps⟩ := all_at R py hws
      refine ⟨a, vs, rfl, ha, by rw [← flatS_of px]; exact hf.1, by rw [← flatS_all ps]; exact hf.2, ?_⟩
      exact k B m H _ .refl R (by rw [eqF_any px ps]; exact .bl _)
    · cases h1
  · cases h1
theorem o_notIn : OpW X (compareOp .NotIn) notInW := by
  refine ⟨_, op_notIn_seq, ?_⟩
  intro B m S H x y vx vy Q w S' R px py e k
  simp only [notInW, Option.map_eq_some_iff] at e
  obtain ⟨b, h1, e⟩ := e
  cases e
  unfold inB at h1
  split at h1
  · rename_i ws hws
    split at h1
    · rename_i hf
      cases h1
      rw [Bool.and_eq_true] at hf
      obtain ⟨a, vs, rfl, ha, ps⟩ := all_at R py hws
      refine ⟨a, vs, rfl, ha, by rw [← flatS_of px]; exact hf.1, by rw [← flatS_all ps]; exact hf.2, ?_⟩
      exact k B m H _ .refl R (by rw [eqF_any px ps]; exact .bl _)
    · cases h1
  · cases h1
end
end Zw
set_option maxRecDepth 100000
namespace Zw
open PySem L2

/-! ### calls of what is built in -/
abbrev CM := List W → Sto → Option (W × Sto)
section
variable {X : Cx}
def mCall (g : CM) (a : AM) (r : Ev) (S : Sto) : Option (W × Sto) := (a r S).bind fun p => g p.1 p.2
theorem w_callB {id : String} {g : CM} {x : Str} {e : Expr} {es : List Expr} {ms : AM} {p pos : Pos} (hc : CallW X (.builtin id) g) (hg : Gl X x) (hm : X.mg x = none) (hv : bootBuiltins x = some (.builtin id)) (ha : PAw X (e :: es) ms) (hn : x ≠ "__name__" := by decide) (hdb : (x == ("__debug__" : Str)) = false := by decide)
    (he : starEach (e :: es) X.env = (false, eval e X.env) :: starEach es X.env := by rfl) (hpl : (backTo pos (starEach es X.env)).any (·.1) = false := by rfl) : PEw X (.Call (.Name x p) (e :: es) [] pos) (mCall g ms) := by
  obtain ⟨r, hc, hr⟩ := hc
  obtain ⟨ta, ha, ra⟩ := ha
  refine ⟨_, pe_callB hc hg hm hv ha hn hdb he hpl, ?_⟩
  intro B m r s S H Q w S' R E h k
  simp only [mCall, Option.bind_eq_some_iff] at h
  obtain ⟨⟨ws, S1⟩, h1, h2⟩ := h
  refine ra B m r s S H _ ws S1 R E h1 fun B1 m1 H1 vs s1 R1 p1 => ?_
  exact hr B1 m1 S1 H1 ws vs Q w S' R1 p1 h2 fun B2 m2 H2 v s2 R2 p2 => k B2 m2 H2 v (s1.trans s2) R2 p2
theorem w_callTy {T : String} {g : CM} {x : Str} {e : Expr} {es : List Expr} {ms : AM} {p pos : Pos} (hc : CallW X (.type T) g) (hg : Gl X x) (hm : X.mg x = none) (hv : bootBuiltins x = some (.type T)) (ha : PAw X (e :: es) ms) (hn : x ≠ "__name__" := by decide) (hdb : (x == ("__debug__" : Str)) = false := by decide)
    (he : starEach (e :: es) X.env = (false, eval e X.env) :: starEach es X.env := by rfl) (hpl : (backTo pos (starEach es X.env)).any (·.1) = false := by rfl) : PEw X (.Call (.Name x p) (e :: es) [] pos) (mCall g ms) := by
  obtain ⟨r, hc, hr⟩ := hc
  obtain ⟨ta, ha, ra⟩ := ha
  refine ⟨_, pe_callTy hc hg hm hv ha hn hdb he hpl, ?_⟩
  intro B m r s S H Q w S' R E h k
  simp only [mCall, Option.bind_eq_some_iff] at h
  obtain ⟨⟨ws, S1⟩, h1, h2⟩ := h
  refine ra B m r s S H _ ws S1 R E h1 fun B1 m1 H1 vs s1 R1 p1 => ?_
  exact hr B1 m1 S1 H1 ws vs Q w S' R1 p1 h2 fun B2 m2 H2 v s2 R2 p2 => k B2 m2 H2 v (s1.trans s2) R2 p2
/-- a built-in type as a value -/
theorem w_ty {x : Str} {T : String} {pos : Pos} (hg : Gl X x) (hm : X.mg x = none) (hv : bootBuiltins x = some (.type T)) (hn : x ≠ "__name__" := by decide) (hd : (x == ("__debug__" : Str)) = false := by decide) : PEw X (.Name x pos) (mC (.ty T)) :=
  ⟨_, pe_bltn (v := .ty T) hg hm hv rfl hn hd, fun B m r s S H Q w S' R E h k => by cases h; exact k B m H _ .refl R (.ty T)⟩
/-- a def or class of the module as a value -/
theorem w_glo {x : String} {a : Addr} {pos : Pos} (hg : Gl X (Str.ofString x)) (hm : X.mg (Str.ofString x) = some (.ref a)) (hd : (Str.ofString x == ("__debug__" : Str)) = false := by decide) : PEw X (.Name (Str.ofString x) pos) (mC (.glo x)) :=
  w_glob hg hm (v := .ref a) rfl (fun _ _ _ _ _ => .glo hm) hd

def lenW (ws : List W) (S : Sto) : Option (W × Sto) := match ws with
  | [x] => match x with
    | .str z => if z.length ≤ sizeLine then some (.int z.length, S) else none
    | x => match allOf S x with
      | some xs => some (.int xs.length, S)
      | none => none
  | _ => none
theorem c_len : CallW X (.builtin "len") lenW := by
  refine ⟨_, call_len_seq.or call_len_str, ?_⟩
  intro B m S H ws vs Q w S' R ps e k
  unfold lenW at e
  split at e
  · cases ps with
    | cons px pn =>
    cases pn
    split at e
    · split at e
      · rename_i hz
        cases e
        cases px
        exact .inr ⟨_, rfl, hz, k B m H _ .refl R (.int _)⟩
      · cases e
    · split at e
      · rename_i xs hxs
        cases e
        obtain ⟨a, vs, rfl, ha, pv⟩ := all_at R px hxs
        exact .inl ⟨a, vs, rfl, ha, k B m H _ .refl R (by rw [pv.length]; exact .int _)⟩
      · cases e
  · cases e
@[simp] def absW (ws : List W) (S : Sto) : Option (W × Sto) := match ws with
  | [.int i] => some (.int (if i < 0 then -i else i), S)
  | _ => none
theorem c_abs : CallW X (.builtin "abs") absW := by
  refine ⟨_, call_abs, ?_⟩
  intro B m S H ws vs Q w S' R ps e k
  unfold absW at e
  split at e
  · cases e
    cases ps with
    | cons px pn =>
    cases pn; cases px
    exact ⟨_, rfl, k B m H _ .refl R (.int _)⟩
  · cases e
@[simp] def intW (ws : List W) (S : Sto) : Option (W × Sto) := match ws with
  | [.int i] => some (.int i, S)
  | [.bl k] => some (.int (if k then 1 else 0), S)
  | _ => none
theorem c_int : CallW X (.type "int") intW := by
  refine ⟨_, call_int1, ?_⟩
  intro B m S H ws vs Q w S' R ps e k
  unfold intW at e
  split at e
  · cases e
    cases ps with
    | cons px pn =>
    cases pn; cases px
    exact .inl ⟨_, rfl, k B m H _ .refl R (.int _)⟩
  · cases e
    cases ps with
    | cons px pn =>
    cases pn; cases px
    exact .inr ⟨_, rfl, k B m H _ .refl R (.int _)⟩
  · cases e
@[simp] def intsOf : List W → Option (List Int)
  | [] => some []
  | .int i :: ws => (intsOf ws).map (i :: ·)
  | _ => none
theorem ints_of {B : Addr → Prop} {m : List Addr} {H : Hp} : ∀ {ws : List W} {vs : List V} {ns : List Int}, Rps X.K X.mg B m H ws vs → intsOf ws = some ns → vs = ns.map V.int
  | _, _, _, .nil, e => by simp only [intsOf, Option.some.injEq] at e; subst e; rfl
  | _, _, _, .cons r t, e => by
    cases r <;> simp only [intsOf, reduceCtorEq, Option.map_eq_some_iff] at e
    obtain ⟨ns, h1, rfl⟩ := e
    rw [ints_of t h1]; rfl
def maxI : List Int → Int
  | [] => 0
  | [x] => x
  | x :: xs => max x (maxI xs)
def minI : List Int → Int
  | [] => 0
  | [x] => x
  | x :: xs => min x (minI xs)
theorem maxI_le : ∀ {ns : List Int} {y : Int}, y ∈ ns → y ≤ maxI ns
  | [], _, h => by simp at h
  | [x], y, h => by simp at h; subst h; exact Int.le_refl _
  | x :: z :: xs, y, h => by
    rcases List.mem_cons.mp h with h | h
    · subst h
      show y ≤ max y (maxI (z :: xs))
      omega
    · have := maxI_le (ns := z :: xs) h
      show y ≤ max x (maxI (z :: xs))
      omega
theorem maxI_mem : ∀ {ns : List Int}, ns ≠ [] → maxI ns ∈ ns
  | [], h => absurd rfl h
  | [x], _ => by simp [maxI]
  | x :: z :: xs, _ => by
    have := maxI_mem (ns := z :: xs) (by simp)
    show max x (maxI (z :: xs)) ∈ x :: z :: xs
    rw [Int.max_def]
    split
    · exact List.mem_cons_of_mem _ this
    · exact List.mem_cons_self
theorem minI_le : ∀ {ns : List Int} {y : Int}, y ∈ ns → minI ns ≤ y
  | [], _, h => by simp at h
  | [x], y, h => by simp at h; subst h; exact Int.le_refl _
  | x :: z :: xs, y, h => by
    rcases List.mem_cons.mp h with h | h
    · subst h
      show min y (minI (z :: xs)) ≤ y
      omega
    · have := minI_le (ns := z :: xs) h
      show min x (minI (z :: xs)) ≤ y
      omega
theorem minI_mem : ∀ {ns : List Int}, ns ≠ [] → minI ns ∈ ns
  | [], h => absurd rfl h
  | [x], _ => by simp [minI]
  | x :: z :: xs, _ => by
    have := minI_mem (ns := z :: xs) (by simp)
    show min x (minI (z :: xs)) ∈ x :: z :: xs
    rw [Int.min_def]
    split
    · exact List.mem_cons_self
    · exact List.mem_cons_of_mem _ this
theorem maxI_eq {ns : List Int} {m : Int} (h : m ∈ ns) (hm : ∀ y ∈ ns, y ≤ m) : m = maxI ns := by
  have h1 := maxI_le h
  have h2 := hm _ (maxI_mem (List.ne_nil_of_mem h))
  omega
theorem minI_eq {ns : List Int} {m : Int} (h : m ∈ ns) (hm : ∀ y ∈ ns, m ≤ y) : m = minI ns := by
  have h1 := minI_le h
  have h2 := hm _ (minI_mem (List.ne_nil_of_mem h))
  omega
@[simp] def maxW (ws : List W) (S : Sto) : Option (W × Sto) := match ws with
  | [.int i, .int j] => some (.int (if j > i then j else i), S)
  | [x] => match seqOf S x with
    | some xs => match intsOf xs with
      | some (n :: ns) => some (.int (maxI (n :: ns)), S)
      | _ => none
    | none => none
  | _ => none
@[simp] def minW (ws : List W) (S : Sto) : Option (W × Sto) := match ws with
  | [.int i, .int j] => some (.int (if j < i then j else i), S)
  | [x] => match seqOf S x with
    | some xs => match intsOf xs with
      | some (n :: ns) => some (.int (minI (n :: ns)), S)
      | _ => none
    | none => none
  | _ => none
theorem c_max (hc : X.calm = true) : CallW X (.builtin "max") maxW := by
  refine ⟨_, (call_max2 hc).or (cr_max hc), ?_⟩
  intro B m S H ws vs Q w S' R ps e k
  unfold maxW at e
  split at e
  · cases e
    cases ps with
    | cons px pn =>
    cases pn with
    | cons py pn =>
    cases pn; cases px; cases py
    exact .inl ⟨_, _, rfl, k B m H _ .refl R (.int _)⟩
  · split at e
    · rename_i xs hxs
      split at e
      · rename_i n ns hn
        cases e
        cases ps with
        | cons px pn =>
        cases pn
        obtain ⟨a, vs, rfl, ha, pv⟩ := seq_at R px hxs
        have hv := ints_of pv hn
        subst hv
        exact .inr ⟨a, _, rfl, ha, by simp, fun z hz hle => k B m H _ .refl R (by rw [maxI_eq hz hle]; exact .int _)⟩
      · cases e
    · cases e
  · cases e
theorem c_min (hc : X.calm = true) : CallW X (.builtin "min") minW := by
  refine ⟨_, (call_min2 hc).or (cr_min hc), ?_⟩
  intro B m S H ws vs Q w S' R ps e k
  unfold minW at e
  split at e
  · cases e
    cases ps with
    | cons px pn =>
    cases pn with
    | cons py pn =>
    cases pn; cases px; cases py
    exact .inl ⟨_, _, rfl, k B m H _ .refl R (.int _)⟩
  · split at e
    · rename_i xs hxs
      split at e
      · rename_i n ns hn
        cases e
        cases ps with
        | cons px pn =>
        cases pn
        obtain ⟨a, vs, rfl, ha, pv⟩ := seq_at R px hxs
        have hv := ints_of pv hn
        subst hv
        exact .inr ⟨a, _, rfl, ha, by simp, fun z hz hle => k B m H _ .refl R (by rw [minI_eq hz hle]; exact .int _)⟩
      · cases e
    · cases e
  · cases e
@[simp] def sumW (ws : List W) (S : Sto) : Option (W × Sto) := match ws with
  | [x] => match seqOf S x with
    | some xs => match intsOf xs with
      | some ns => some (.int ns.sum, S)
      | _ => none
    | none => none
  | _ => none
theorem c_sum (hc : X.calm = true) : CallW X (.builtin "sum") sumW := by
  refine ⟨_, cr_sum hc, ?_⟩
  intro B m S H ws vs Q w S' R ps e k
  unfold sumW at e
  split at e
  · split at e
    · rename_i xs hxs
      split at e
      · rename_i ns hn
        cases e
        cases ps with
        | cons px pn =>
        cases pn
        obtain ⟨a, vs, rfl, ha, pv⟩ := seq_at R px hxs
        have hv := ints_of pv hn
        subst hv
        exact ⟨a, _, rfl, ha, k B m H _ .refl R (.int _)⟩
      · cases e
    · cases e
  · cases e
/-- list(x): stays; may change. tuple(x) -/
@[simp] def listW (ws : List W) (S : Sto) : Option (W × Sto) := match ws with
  | [x] => (allOf S x).map fun xs => (.lst xs, S)
  | _ => none
@[simp] def listM (ws : List W) (S : Sto) : Option (W × Sto) := match ws with
  | [x] => (allOf S x).map fun xs => (.ref S.length, S ++ [.lst xs])
  | _ => none
theorem c_list : CallW X (.type "list") listW := by
  refine ⟨_, call_list_of, ?_⟩
  intro B m S H ws vs Q w S' R ps e k
  unfold listW at e
  split at e
  · simp only [Option.map_eq_some_iff] at e
    obtain ⟨xs, hxs, e⟩ := e
    cases e
    cases ps with
    | cons px pn =>
    cases pn
    obtain ⟨a, vs, rfl, ha, pv⟩ := all_at R px hxs
    refine ⟨a, vs, rfl, ha, fun l hl => ?_⟩
    exact k B m _ _ (Stp.frz R hl _) (R.frz hl _) (.lst (R.none_of hl) upd_same (pv.mono (Stp.frz R hl _) R.inB))
  · cases e
theorem c_listM : CallW X (.type "list") listM := by
  refine ⟨_, call_list_of, ?_⟩
  intro B m S H ws vs Q w S' R ps e k
  unfold listM at e
  split at e
  · simp only [Option.map_eq_some_iff] at e
    obtain ⟨xs, hxs, e⟩ := e
    cases e
    cases ps with
    | cons px pn =>
    cases pn
    obtain ⟨a, vs, rfl, ha, pv⟩ := all_at R px hxs
    refine ⟨a, vs, rfl, ha, fun l hl => ?_⟩
    exact k _ _ _ _ (Stp.alloc R hl _) (R.alloc hl (ob := .lst _) ⟨_, upd_same, pv.mono (Stp.alloc R hl _) R.inB⟩) (.ref R.newAt)
  · cases e
@[simp] def tupW (ws : List W) (S : Sto) : Option (W × Sto) := match ws with
  | [.tup xs] => some (.tup xs, S)
  | [x] => (seqOf S x).map fun xs => (.tup xs, S)
  | _ => none
theorem c_tup : CallW X (.type "tuple") tupW := by
  refine ⟨_, call_tuple_of, ?_⟩
  intro B m S H ws vs Q w S' R ps e k
  unfold tupW at e
  split at e
  · cases e
    cases ps with
    | cons px pn =>
    cases pn
    cases px with
    | tup f p => exact ⟨_, _, rfl, .inr ⟨f.seq, k B m H _ .refl R (.tup f p)⟩⟩
  · simp only [Option.map_eq_some_iff] at e
    obtain ⟨xs, hxs, e⟩ := e
    cases e
    cases ps with
    | cons px pn =>
    cases pn
    obtain ⟨a, vs, rfl, ha, pv⟩ := seq_at R px hxs
    refine ⟨a, vs, rfl, .inl ⟨ha, fun l hl => ?_⟩⟩
    exact k B m _ _ (Stp.frz R hl _) (R.frz hl _) (.tup (.inl ⟨R.none_of hl, .inl upd_same⟩) (pv.mono (Stp.frz R hl _) R.inB))
  · cases e
/-! ### subscripts -/
def ixW (x y : W) (S : Sto) : Option (W × Sto) := match y with
  | .int i => match x with
    | .str z => if z.length ≤ sizeLine then (atI z.cps.toList i).map fun c => (.str ⟨#[c]⟩, S) else none
    | x => match allOf S x with
      | some ws => (atI ws i).map fun w => (w, S)
      | none => none
  | _ => none
theorem atI_rps {B : Addr → Prop} {m : List Addr} {H : Hp} {ws : List W} {vs : List V} {i : Int} {w : W} (p : Rps X.K X.mg B m H ws vs) (h : atI ws i = some w) : ∃ v, atI vs i = some v ∧ Rp X.K X.mg B m H w v := by
  unfold atI at h ⊢
  simp only [Option.bind_eq_some_iff] at h
  obtain ⟨j, h1, h2⟩ := h
  obtain ⟨v, h3, h4⟩ := p.get h2
  exact ⟨v, by rw [← p.length, h1]; exact h3, h4⟩
theorem i_ix : IxW X ixW := by
  refine ⟨_, ix_seq, ?_⟩
  intro B m S H x y vx vy Q w S' R px py e k
  unfold ixW at e
  split at e
  · cases py
    split at e
    · split at e
      · rename_i hz
        simp only [Option.map_eq_some_iff] at e
        obtain ⟨c, hc, e⟩ := e
        cases e
        cases px
        exact .inr (.inr ⟨_, _, c, rfl, rfl, hz, hc, k B m H _ .refl R (.str _)⟩)
      · cases e
    · split at e
      · rename_i ws hws
        simp only [Option.map_eq_some_iff] at e
        obtain ⟨c, hc, e⟩ := e
        cases e
        obtain ⟨a, vs, rfl, ha, pv⟩ := all_at R px hws
        obtain ⟨v, hv, pw⟩ := atI_rps pv hc
        rcases ha with ha | ha
        · exact .inl ⟨a, vs, _, v, rfl, rfl, ha, hv, k B m H _ .refl R pw⟩
        · exact .inr (.inl ⟨a, vs, _, v, rfl, rfl, ha, hv, k B m H _ .refl R pw⟩)
      · cases e
  · cases e
theorem w_ix {a b : Expr} {ma mb : EM} {g : GM} {pos : Pos} (hr : IxW X g) (ha : PEw X a ma) (hb : PEw X b mb) (hs : PlainIx b := by exact fun _ _ => rfl) : PEw X (.Subscript a b pos) (mOp g ma mb) := by
  obtain ⟨r, ho, hr⟩ := hr
  obtain ⟨ta, ha, ra⟩ := ha
  obtain ⟨tb, hb, rb⟩ := hb
  refine ⟨_, pe_ix ho ha hb hs, ?_⟩
  intro B m r s S H Q w S' R E h k
  simp only [mOp, Option.bind_eq_some_iff] at h
  obtain ⟨⟨x, S1⟩, h1, ⟨y, S2⟩, h2, h3⟩ := h
  refine ra B m r s S H _ x S1 R E h1 fun B1 m1 H1 vx s1 R1 p1 => ?_
  refine rb B1 m1 r s S1 H1 _ y S2 R1 (E.mono s1 R.inB) h2 fun B2 m2 H2 vy s2 R2 p2 => ?_
  exact hr B2 m2 S2 H2 x y vx vy Q w S' R2 (p1.mono s2 R1.inB) p2 h3 fun B3 m3 H3 v s3 R3 p3 => k B3 m3 H3 v ((s1.trans s2).trans s3) R3 p3
/-! ### slices -/
def mPart (a : EM) (r : Ev) (S : Sto) : Option (Option Int × Sto) := (a r S).bind fun p => match p.1 with
  | .int i => some (some i, p.2)
  | _ => none
def mNoPart (_ : Ev) (S : Sto) : Option (Option Int × Sto) := some (none, S)
structure POw (X : Cx) (e : Option Expr) (M : Ev → Sto → Option (Option Int × Sto)) : Prop where
  ex : ∃ t, PO X e t ∧ ∀ B m r s S H (Q : Option Int → Hp → Prop) o S', Rel X.K X.mg B m S H → EvR X.K X.mg B m H r s → M r S = some (o, S') →
    (∀ B' m' H', Stp B m H B' m' H' → Rel X.K X.mg B' m' S' H' → Q o H') → t s H Q
theorem wo_none : POw X none mNoPart := ⟨_, po_none, fun B m r s S H Q o S' R E h k => by cases h; exact k B m H .refl R⟩
theorem wo_some {e : Expr} {me : EM} (h : PEw X e me) : POw X (some e) (mPart me) := by
  obtain ⟨t, ha, ra⟩ := h
  refine ⟨_, po_some ha, ?_⟩
  intro B m r s S H Q o S' R E h k
  simp only [mPart, Option.bind_eq_some_iff] at h
  obtain ⟨⟨x, S1⟩, h1, h2⟩ := h
  simp only at h2
  split at h2
  · cases h2
    refine ra B m r s S H _ _ _ R E h1 fun B1 m1 H1 vx s1 R1 p1 => ?_
    cases p1
    exact ⟨_, rfl, k B1 m1 H1 s1 R1⟩
  · cases h2
def cutW (xs : List W) (lo hi : Option Int) : List W := (xs.drop (HT.sIx xs.length 0 lo)).take (HT.sIx xs.length xs.length hi - HT.sIx xs.length 0 lo)
abbrev SlM := W → Option Int → Option Int → Sto → Option (W × Sto)
def SlW (X : Cx) (g : SlM) : Prop := ∃ r, SlR X r ∧ ∀ B m S H x vx lo hi (Q : VK) w S', Rel X.K X.mg B m S H → Rp X.K X.mg B m H x vx → g x lo hi S = some (w, S') →
  (∀ B' m' H' v, Stp B m H B' m' H' → Rel X.K X.mg B' m' S' H' → Rp X.K X.mg B' m' H' w v → Q v H') → r vx lo hi H Q
def mSl (g : SlM) (a : EM) (l u : Ev → Sto → Option (Option Int × Sto)) : EM := fun r S => (a r S).bind fun p => (l r p.2).bind fun q => (u r q.2).bind fun z => g p.1 q.1 z.1 z.2
theorem w_slice {e : Expr} {lo hi : Option Expr} {me : EM} {ml mu : Ev → Sto → Option (Option Int × Sto)} {g : SlM} {pos p2 : Pos} (hr : SlW X g) (he : PEw X e me) (hl : POw X lo ml) (hu : POw X hi mu) : PEw X (.Subscript e (.Slice lo hi none p2) pos) (mSl g me ml mu) := by
  obtain ⟨r, ho, hr⟩ := hr
  obtain ⟨ta, ha, ra⟩ := he
  obtain ⟨tl, hl, rl⟩ := hl
  obtain ⟨tu, hu, ru⟩ := hu
  refine ⟨_, pe_slice ho ha hl hu, ?_⟩
  intro B m r s S H Q w S' R E h k
  simp only [mSl, Option.bind_eq_some_iff] at h
  obtain ⟨⟨x, S1⟩, h1, ⟨y, S2⟩, h2, ⟨z, S3⟩, h3, h4⟩ := h
  refine ra B m r s S H _ x S1 R E h1 fun B1 m1 H1 vx s1 R1 p1 => ?_
  refine rl B1 m1 r s S1 H1 _ y S2 R1 (E.mono s1 R.inB) h2 fun B2 m2 H2 s2 R2 => ?_
  refine ru B2 m2 r s S2 H2 _ z S3 R2 ((E.mono s1 R.inB).mono s2 R1.inB) h3 fun B3 m3 H3 s3 R3 => ?_
  exact hr B3 m3 S3 H3 x vx y z Q w S' R3 ((p1.mono s2 R1.inB).mono s3 R2.inB) h4 fun B4 m4 H4 v s4 R4 p4 => k B4 m4 H4 v (((s1.trans s2).trans s3).trans s4) R4 p4
theorem cut_rps {B : Addr → Prop} {m : List Addr} {H : Hp} {ws : List W} {vs : List V} {lo hi : Option Int} (p : Rps X.K X.mg B m H ws vs) : Rps X.K X.mg B m H (cutW ws lo hi) (cutV vs lo hi) := by
  unfold cutW cutV
  rw [← p.length]
  exact (p.drop _).take _
/-- a slice of a list, that stays; of a tuple -/
@[simp] def slW (x : W) (lo hi : Option Int) (S : Sto) : Option (W × Sto) := match x with
  | .tup ws => some (.tup (cutW ws lo hi), S)
  | x => (seqOf S x).map fun ws => (.lst (cutW ws lo hi), S)
@[simp] def slM (x : W) (lo hi : Option Int) (S : Sto) : Option (W × Sto) := (seqOf S x).map fun ws => (.ref S.length, S ++ [.lst (cutW ws lo hi)])
theorem s_sl : SlW X slW := by
  refine ⟨_, sl_list.or sl_tupA, ?_⟩
  intro B m S H x vx lo hi Q w S' R px e k
  unfold slW at e
  split at e
  · cases e
    cases px with
    | @tup _ _ vs f p =>
    refine .inr ⟨_, _, rfl, f.seq, ?_⟩
    have c := cut_rps (lo := lo) (hi := hi) p
    refine ⟨fun he => ?_, fun hn q hq => ?_⟩
    · have z : ∀ ws : List W, ws.length = vs.length → cutW ws lo hi = ws := fun ws hl => by
        unfold cutW
        rw [hl, he.1, he.2, List.drop_zero, Nat.sub_zero, ← hl, List.take_length]
      rw [z _ p.length] at k
      exact k B m H _ .refl R (.tup f p)
    · exact k B m _ _ (Stp.frz R hq _) (R.frz hq _) (.tup (.inl ⟨R.none_of hq, .inl upd_same⟩) (c.mono (Stp.frz R hq _) R.inB))
  · simp only [Option.map_eq_some_iff] at e
    obtain ⟨xs, hxs, e⟩ := e
    cases e
    obtain ⟨a, vs, rfl, ha, pv⟩ := seq_at R px hxs
    refine .inl ⟨a, vs, rfl, ha, fun q hq => ?_⟩
    exact k B m _ _ (Stp.frz R hq _) (R.frz hq _) (.lst (R.none_of hq) upd_same ((cut_rps pv).mono (Stp.frz R hq _) R.inB))
theorem s_slM : SlW X slM := by
  refine ⟨_, sl_list, ?_⟩
  intro B m S H x vx lo hi Q w S' R px e k
  unfold slM at e
  simp only [Option.map_eq_some_iff] at e
  obtain ⟨xs, hxs, e⟩ := e
  cases e
  obtain ⟨a, vs, rfl, ha, pv⟩ := seq_at R px hxs
  refine ⟨a, vs, rfl, ha, fun q hq => ?_⟩
  exact k _ _ _ _ (Stp.alloc R hq _) (R.alloc hq (ob := .lst _) ⟨_, upd_same, (cut_rps pv).mono (Stp.alloc R hq _) R.inB⟩) (.ref R.newAt)
end
end Zw
set_option maxRecDepth 100000
namespace Zw
open PySem L2

/-! ### equality of trees, decided -/
mutual
def W.beq : W → W → Bool
  | .non, .non => true
  | .bl a, .bl b => a == b
  | .int a, .int b => a == b
  | .str a, .str b => a == b
  | .tup a, .tup b => beqs a b
  | .lst a, .lst b => beqs a b
  | .lsr a, .lsr b => beqs a b
  | .ins c n a, .ins d l b => c == d && n == l && beqs a b
  | .glo a, .glo b => a == b
  | .ty a, .ty b => a == b
  | .ref a, .ref b => a == b
  | _, _ => false
def beqs : List W → List W → Bool
  | [], [] => true
  | a :: as, b :: bs => a.beq b && beqs as bs
  | _, _ => false
end
mutual
theorem W.beq_refl : ∀ a : W, a.beq a = true
  | .non => rfl
  | .bl a => by simp [W.beq]
  | .int a => by simp [W.beq]
  | .str a => by simp [W.beq]
  | .tup a => by simp [W.beq, beqs_refl a]
  | .lst a => by simp [W.beq, beqs_refl a]
  | .lsr a => by simp [W.beq, beqs_refl a]
  | .ins c n a => by simp [W.beq, beqs_refl a]
  | .glo a => by simp [W.beq]
  | .ty a => by simp [W.beq]
  | .ref a => by simp [W.beq]
theorem beqs_refl : ∀ a : List W, beqs a a = true
  | [] => rfl
  | a :: as => by simp [beqs, W.beq_refl a, beqs_refl as]
end
mutual
theorem W.beq_eq : ∀ (a b : W), a.beq b = true → a = b
  | .non, b, h => by cases b <;> simp_all [W.beq]
  | .bl a, b, h => by cases b <;> simp_all [W.beq]
  | .int a, b, h => by cases b <;> simp_all [W.beq]
  | .str a, b, h => by cases b <;> simp_all [W.beq]
  | .tup a, b, h => by
    cases b <;> simp only [W.beq, Bool.false_eq_true] at h
    rw [beqs_eq _ _ h]
  | .lst a, b, h => by
    cases b <;> simp only [W.beq, Bool.false_eq_true] at h
    rw [beqs_eq _ _ h]
  | .lsr a, b, h => by
    cases b <;> simp only [W.beq, Bool.false_eq_true] at h
    rw [beqs_eq _ _ h]
  | .ins c n a, b, h => by
    cases b <;> simp only [W.beq, Bool.false_eq_true, Bool.and_eq_true, beq_iff_eq] at h
    rw [beqs_eq _ _ h.2, h.1.1, h.1.2]
  | .glo a, b, h => by cases b <;> simp_all [W.beq]
  | .ty a, b, h => by cases b <;> simp_all [W.beq]
  | .ref a, b, h => by cases b <;> simp_all [W.beq]
theorem beqs_eq : ∀ (a b : List W), beqs a b = true → a = b
  | [], [], _ => rfl
  | [], _ :: _, h => by simp [beqs] at h
  | _ :: _, [], h => by simp [beqs] at h
  | a :: as, b :: bs, h => by
    simp only [beqs, Bool.and_eq_true] at h
    rw [W.beq_eq a b h.1, beqs_eq as bs h.2]
end

/-! ### statements -/
def mSkip (r : Ev) (S : Sto) : Option (Fl × Ev × Sto) := some (.nx, r, S)
def mSeq (a b : SM) (r : Ev) (S : Sto) : Option (Fl × Ev × Sto) := (a r S).bind fun p => match p.1 with
  | .nx => b p.2.1 p.2.2
  | .rt w => some (.rt w, p.2)
  | .bk => some (.bk, p.2)
  | .ct => some (.ct, p.2)
def mRet (e : EM) (r : Ev) (S : Sto) : Option (Fl × Ev × Sto) := (e r S).bind fun p => some (.rt p.1, r, p.2)
def mRetN (r : Ev) (S : Sto) : Option (Fl × Ev × Sto) := some (.rt .non, r, S)
def mExpr (e : EM) (r : Ev) (S : Sto) : Option (Fl × Ev × Sto) := (e r S).bind fun p => some (.nx, r, p.2)
def mIf (c : TM) (a b : SM) (r : Ev) (S : Sto) : Option (Fl × Ev × Sto) := (c r S).bind fun p => if p.1 = true then a r p.2 else b r p.2
def mBreak (r : Ev) (S : Sto) : Option (Fl × Ev × Sto) := some (.bk, r, S)
def mCont (r : Ev) (S : Sto) : Option (Fl × Ev × Sto) := some (.ct, r, S)
def mNever (_ : Ev) (_ : Sto) : Option (Fl × Ev × Sto) := none
abbrev TgM := W → Ev → Sto → Option (Ev × Sto)
def tgN (i : Nat) (w : W) (r : Ev) (S : Sto) : Option (Ev × Sto) := some (r.set i (some w), S)
def mAsg (e : EM) (g : TgM) (r : Ev) (S : Sto) : Option (Fl × Ev × Sto) := (e r S).bind fun p => (g p.1 r p.2).bind fun q => some (.nx, q.1, q.2)
@[simp] def tgs : List TgM → List W → Ev → Sto → Option (Ev × Sto)
  | [], [], r, S => some (r, S)
  | g :: gs, w :: ws, r, S => (g w r S).bind fun p => tgs gs ws p.1 p.2
  | _, _, _, _ => none
def tgTup (gs : List TgM) (w : W) (r : Ev) (S : Sto) : Option (Ev × Sto) := match w with
  | .tup ws => tgs gs ws r S
  | _ => none
def tgSub (g : W → W → W → Sto → Option Sto) (o i : EM) (w : W) (r : Ev) (S : Sto) : Option (Ev × Sto) := (o r S).bind fun p => (i r p.2).bind fun q => (g p.1 q.1 w q.2).bind fun S' => some (r, S')
section
variable (X : Cx)
def Kept (ix : List Nat) (s s' : St) : Prop := s'.length = s.length ∧ ∀ i, i ∉ ix → s'[i]? = s[i]?
def RG (ix : List Nat) (t : TG) (M : TgM) : Prop := ∀ B m r s S H w v (Q : St → Hp → Prop) r' S', Rel X.K X.mg B m S H → EvR X.K X.mg B m H r s → Rp X.K X.mg B m H w v → M w r S = some (r', S') →
  (∀ B' m' H' s', Stp B m H B' m' H' → Rel X.K X.mg B' m' S' H' → EvR X.K X.mg B' m' H' r' s' → Kept ix s s' → Q s' H') → t v s H Q
structure PGw (ix : List Nat) (e : Expr) (M : TgM) : Prop where
  ex : ∃ t, PG X e t ∧ RG X ix t M
def RGs (ix : List Nat) (t : TGs) (M : List TgM) : Prop := ∀ B m r s S H ws vs (Q : St → Hp → Prop) r' S', Rel X.K X.mg B m S H → EvR X.K X.mg B m H r s → Rps X.K X.mg B m H ws vs → tgs M ws r S = some (r', S') →
  (∀ B' m' H' s', Stp B m H B' m' H' → Rel X.K X.mg B' m' S' H' → EvR X.K X.mg B' m' H' r' s' → Kept ix s s' → Q s' H') → t vs s H Q
structure PGsw (ix : List Nat) (es : List Expr) (M : List TgM) : Prop where
  ex : ∃ t, PGs X es t ∧ RGs X ix t M
end
section
variable {X : Cx} {pos : Pos}
theorem Kept.refl {ix : List Nat} {s : St} : Kept ix s s := ⟨rfl, fun _ _ => rfl⟩
theorem Kept.trans {i1 i2 : List Nat} {s s1 s2 : St} (a : Kept i1 s s1) (b : Kept i2 s1 s2) : Kept (i1 ++ i2) s s2 :=
  ⟨b.1.trans a.1, fun i h => by
    rw [List.mem_append, not_or] at h
    rw [b.2 i h.2, a.2 i h.1]⟩
theorem wg_name {i : Nat} {x : Str} (hN : X.N.Nodup) (hi : X.N[i]? = some x := by rfl) (hx : Loc X.env.scope x := by first | exact Or.inl rfl | exact Or.inr rfl) (hf : X.fn x = true ∨ X.env.scope.names.lookup x = some .local := by first | exact .inl rfl | exact .inr rfl | assumption) : PGw X [i] (.Name x pos) (tgN i) := by
  refine ⟨_, pg_name hN hi hx hf, ?_⟩
  intro B m r s S H w v Q r' S' R E p h k
  cases h
  exact k B m H _ .refl R (E.set p i) ⟨by simp, fun j hj => by
    rw [List.getElem?_set_ne]
    simpa using fun z => hj (by simp [z])⟩
theorem wgs_nil : PGsw X [] [] [] := by
  refine ⟨_, pgs_nil, ?_⟩
  intro B m r s S H ws vs Q r' S' R E p h k
  cases p with
  | nil =>
    simp only [tgs, Option.some.injEq, Prod.mk.injEq] at h
    obtain ⟨rfl, rfl⟩ := h
    exact ⟨rfl, k B m H s .refl R E .refl⟩
  | cons _ _ => simp [tgs] at h
theorem wgs_cons {i1 i2 : List Nat} {e : Expr} {es : List Expr} {g : TgM} {gs : List TgM} (h1 : PGw X i1 e g) (h2 : PGsw X i2 es gs) (hs : (assignEach (e :: es) X.env).map (·.2) = assign e X.env :: (assignEach es X.env).map (·.2) := by rfl) : PGsw X (i1 ++ i2) (e :: es) (g :: gs) := by
  obtain ⟨t1, h1, r1⟩ := h1
  obtain ⟨t2, h2, r2⟩ := h2
  refine ⟨_, pgs_cons h1 h2 hs, ?_⟩
  intro B m r s S H ws vs Q r' S' R E p h k
  cases p with
  | nil => simp [tgs] at h
  | cons p ps =>
    simp only [tgs, Option.bind_eq_some_iff] at h
    obtain ⟨⟨ra, Sa⟩, h3, h4⟩ := h
    refine ⟨_, _, rfl, r1 B m r s S H _ _ _ ra Sa R E p h3 fun B1 m1 H1 s1 st1 R1 E1 k1 => ?_⟩
    exact r2 B1 m1 ra s1 Sa H1 _ _ Q r' S' R1 E1 (ps.mono st1 R.inB) h4 fun B2 m2 H2 s2 st2 R2 E2 k2 => k B2 m2 H2 s2 (st1.trans st2) R2 E2 (k1.trans k2)
theorem wg_tup {ix : List Nat} {es : List Expr} {k : Nat} {gs : List TgM} {n : Nat} (hc : X.calm = true) (h : PGsw X ix es gs) (hn : (assignEach es X.env).length = n := by rfl) (hl : gs.length = n := by rfl) (hst : (assignEach es X.env).findIdx? (·.1) = none := by rfl) : PGw X ix (.Tuple es k pos) (tgTup gs) := by
  obtain ⟨t, h, rr⟩ := h
  refine ⟨_, pg_tup hc h hn hst, ?_⟩
  intro B m r s S H w v Q r' S' R E p h k
  unfold tgTup at h
  split at h
  · rename_i ws
    cases p with
    | tup f ps =>
      have len : ∀ (gs : List TgM) (ws : List W) r S q, tgs gs ws r S = some q → ws.length = gs.length := by
        intro gs
        induction gs with
        | nil =>
          intro ws r S q hq
          cases ws with
          | nil => rfl
          | cons _ _ => simp [tgs] at hq
        | cons g gs ih =>
          intro ws r S q hq
          cases ws with
          | nil => simp [tgs] at hq
          | cons w ws =>
            simp only [tgs, Option.bind_eq_some_iff] at hq
            obtain ⟨_, _, h2⟩ := hq
            simp [ih ws _ _ _ h2]
      refine ⟨_, _, rfl, f.seq, ?_, rr B m r s S H ws _ Q r' S' R E ps h k⟩
      rw [← ps.length, len _ _ _ _ _ h, hl]
  · cases h
abbrev SetM := W → W → W → Sto → Option Sto
def SetW (X : Cx) (g : SetM) : Prop := ∃ r, PSet X r ∧ ∀ B m S H o i w vo vi v (Q : Hp → Prop) S', Rel X.K X.mg B m S H → Rp X.K X.mg B m H o vo → Rp X.K X.mg B m H i vi → Rp X.K X.mg B m H w v → g o i w S = some S' →
  (∀ B' m' H', Stp B m H B' m' H' → Rel X.K X.mg B' m' S' H' → Q H') → r vo vi v H Q
@[simp] def setW (o i w : W) (S : Sto) : Option Sto := match o, i with
  | .ref k, .int i => match S[k]? with
    | some (.lst ws) => (ixN ws.length i).map fun j => S.set k (.lst (ws.set j w))
    | _ => none
  | _, _ => none
theorem t_set : SetW X setW := by
  refine ⟨_, set_list, ?_⟩
  intro B m S H o i w vo vi v Q S' R po pi pw e k
  unfold setW at e
  split at e
  · split at e
    · rename_i ws hs
      simp only [Option.map_eq_some_iff] at e
      obtain ⟨j, hj, e⟩ := e
      subst e
      obtain ⟨a, h1, vs, h2, h3⟩ := R.at hs
      cases po with
      | ref hk =>
        rw [hk] at h1; cases h1
        cases pi
        refine ⟨a, vs, _, j, rfl, rfl, h2, by rw [← h3.length]; exact hj, ?_⟩
        have st := Stp.write R hk (.lst (vs.set j v))
        exact k B m _ st (R.write hk ⟨_, upd_same, (h3.set pw j).mono st R.inB⟩)
    · cases e
  · cases e
theorem wg_sub {o i : Expr} {mo mi : EM} {g : SetM} (hs : SetW X g) (ho : PEw X o mo) (hi : PEw X i mi)
    (ha : ∀ v, assign (.Subscript o i pos) X.env v = (do
      let ov ← holding [v] (eval o X.env)
      let iv ← holding [v, ov] (eval i X.env)
      standAt pos
      holding [v, ov, iv] (setItem ov iv v)
      release [v, ov, iv] []) := by intro _; rfl) : PGw X [] (.Subscript o i pos) (tgSub g mo mi) := by
  obtain ⟨rs, hs, rr⟩ := hs
  obtain ⟨to, ho, ro⟩ := ho
  obtain ⟨ti, hi, ri⟩ := hi
  refine ⟨_, pg_sub ho hi hs ha, ?_⟩
  intro B m r s S H w v Q r' S' R E p h k
  simp only [tgSub, Option.bind_eq_some_iff] at h
  obtain ⟨⟨x, S1⟩, h1, ⟨y, S2⟩, h2, S3, h3, h4⟩ := h
  cases h4
  refine ro B m r s S H _ x S1 R E h1 fun B1 m1 H1 vx s1 R1 p1 => ?_
  refine ri B1 m1 r s S1 H1 _ y S2 R1 (E.mono s1 R.inB) h2 fun B2 m2 H2 vy s2 R2 p2 => ?_
  have E2 := (E.mono s1 R.inB).mono s2 R1.inB
  refine rr B2 m2 S2 H2 x y w vx vy v _ _ R2 (p1.mono s2 R1.inB) p2 ((p.mono s1 R.inB).mono s2 R1.inB) h3 fun B3 m3 H3 s3 R3 => ?_
  exact k B3 m3 H3 s ((s1.trans s2).trans s3) R3 (E2.mono s3 R2.inB) .refl
theorem wss_nil : PSsw X [] mSkip := ⟨_, pss_nil, fun B m r s S H D f r' S' R E h k => by cases h; exact k B m H s .refl R E⟩
theorem Then.after {D : Ends} {f : Fl} {r' : Ev} {S' : Sto} {B B1 : Addr → Prop} {m m1 : List Addr} {H H1 : Hp} (st : Stp B m H B1 m1 H1) (k : Then X D f r' S' B m H) : Then X D f r' S' B1 m1 H1 := by
  cases f with
  | nx => exact fun B2 m2 H2 s2 st2 => k B2 m2 H2 s2 (st.trans st2)
  | bk => exact fun B2 m2 H2 s2 st2 => k B2 m2 H2 s2 (st.trans st2)
  | ct => exact fun B2 m2 H2 s2 st2 => k B2 m2 H2 s2 (st.trans st2)
  | rt w => exact fun B2 m2 H2 s2 st2 => k B2 m2 H2 s2 (st.trans st2)
theorem wss_cons {st : Stmt} {rest : List Stmt} {a b : SM} (h1 : PSw X st a) (h2 : PSsw X rest b) : PSsw X (st :: rest) (mSeq a b) := by
  obtain ⟨t1, h1, r1⟩ := h1
  obtain ⟨t2, h2, r2⟩ := h2
  refine ⟨_, pss_cons h1 h2, ?_⟩
  intro B m r s S H D f r' S' R E h k
  simp only [mSeq, Option.bind_eq_some_iff] at h
  obtain ⟨⟨f1, r1', S1⟩, h3, h4⟩ := h
  refine r1 B m r s S H _ f1 r1' S1 R E h3 ?_
  cases f1 with
  | nx => exact fun B1 m1 H1 s1 st1 R1 E1 => r2 B1 m1 r1' s1 S1 H1 D f r' S' R1 E1 h4 (k.after st1)
  | bk => cases h4; exact k
  | ct => cases h4; exact k
  | rt w => cases h4; exact k
theorem wss_one {st : Stmt} {a : SM} (h1 : PSw X st a) : PSsw X [st] a := let ⟨t, h, r⟩ := h1.ex; ⟨t, pss_one h, r⟩
theorem ws_pass : PSw X (.Pass pos) mSkip := ⟨_, ps_pass, fun B m r s S H D f r' S' R E h k => by cases h; exact k B m H s .refl R E⟩
theorem ws_break : PSw X (.Break pos) mBreak := ⟨_, ps_break, fun B m r s S H D f r' S' R E h k => by cases h; exact k B m H s .refl R E⟩
theorem ws_cont : PSw X (.Continue pos) mCont := ⟨_, ps_continue, fun B m r s S H D f r' S' R E h k => by cases h; exact k B m H s .refl R E⟩
theorem ws_never {st : Stmt} : PSw X st mNever := ⟨_, ps_never, fun B m r s S H D f r' S' R E h k => by cases h⟩
theorem ws_expr {e : Expr} {me : EM} (he : PEw X e me) (hs : swapsWith e none pos.line X.env = pure false := by rfl) : PSw X (.Expr e pos) (mExpr me) := by
  obtain ⟨t, he, re⟩ := he
  refine ⟨_, ps_expr he hs, ?_⟩
  intro B m r s S H D f r' S' R E h k
  simp only [mExpr, Option.bind_eq_some_iff] at h
  obtain ⟨⟨x, S1⟩, h1, h2⟩ := h
  cases h2
  exact re B m r s S H _ x _ R E h1 fun B1 m1 H1 v s1 R1 p1 => k B1 m1 H1 s s1 R1 (E.mono s1 R.inB)
theorem ws_ret {e : Expr} {me : EM} (he : PEw X e me) : PSw X (.Return (some e) pos) (mRet me) := by
  obtain ⟨t, he, re⟩ := he
  refine ⟨_, ps_ret he, ?_⟩
  intro B m r s S H D f r' S' R E h k
  simp only [mRet, Option.bind_eq_some_iff] at h
  obtain ⟨⟨x, S1⟩, h1, h2⟩ := h
  cases h2
  exact re B m r s S H _ x _ R E h1 fun B1 m1 H1 v s1 R1 p1 => k B1 m1 H1 v s1 R1 p1
theorem ws_retN : PSw X (.Return none pos) mRetN := ⟨_, ps_retN, fun B m r s S H D f r' S' R E h k => by cases h; exact k B m H _ .refl R .non⟩
theorem ws_if {c : Expr} {p q : List Stmt} {mc : TM} {a b : SM} (hc : PTw X c mc) (ha : PSsw X p a) (hb : PSsw X q b) : PSw X (.If c p q pos) (mIf mc a b) := by
  obtain ⟨tc, hc, rc⟩ := hc
  obtain ⟨t1, h1, r1⟩ := ha
  obtain ⟨t2, h2, r2⟩ := hb
  refine ⟨_, ps_if hc h1 h2, ?_⟩
  intro B m r s S H D f r' S' R E h k
  simp only [mIf, Option.bind_eq_some_iff] at h
  obtain ⟨⟨x, S1⟩, h3, h4⟩ := h
  refine rc B m r s S H _ x S1 R E h3 fun B1 m1 H1 s1 R1 => ?_
  simp only at h4
  split at h4
  · rename_i hx
    rw [if_pos hx]
    exact r1 B1 m1 r s S1 H1 D f r' S' R1 (E.mono s1 R.inB) h4 (k.after s1)
  · rename_i hx
    rw [if_neg hx]
    exact r2 B1 m1 r s S1 H1 D f r' S' R1 (E.mono s1 R.inB) h4 (k.after s1)
theorem ws_asg {ix : List Nat} {tg e : Expr} {me : EM} {g : TgM} (he : PEw X e me) (hg : PGw X ix tg g) (hs : swapsWithSole [tg] e pos.line X.env = pure false := by rfl) (hw : swappedStores [tg] e X.env = pure none := by rfl)
    (h1 : (assignEach [tg] X.env).map (·.2) = [assign tg X.env] := by rfl) : PSw X (.Assign [tg] e pos) (mAsg me g) := by
  obtain ⟨t, he, re⟩ := he
  obtain ⟨tg', hg, rg⟩ := hg
  refine ⟨_, ps_asg he hg hs hw h1, ?_⟩
  intro B m r s S H D f r' S' R E h k
  simp only [mAsg, Option.bind_eq_some_iff] at h
  obtain ⟨⟨x, S1⟩, h1, ⟨r2, S2⟩, h2, h3⟩ := h
  cases h3
  refine re B m r s S H _ x S1 R E h1 fun B1 m1 H1 v s1 R1 p1 => ?_
  exact rg B1 m1 r s S1 H1 x v _ _ _ R1 (E.mono s1 R.inB) p1 h2 fun B2 m2 H2 s2 st2 R2 E2 _ => k B2 m2 H2 s2 (s1.trans st2) R2 E2
theorem ws_set {i : Nat} {x : Str} {e : Expr} {me : EM} {pos' : Pos} (hN : X.N.Nodup) (he : PEw X e me) (hi : X.N[i]? = some x := by rfl) (hx : Loc X.env.scope x := by first | exact Or.inl rfl | exact Or.inr rfl) (hs : swapsWith e (some (.Name x pos')) pos.line X.env = pure false := by rfl) (hf : X.fn x = true ∨ X.env.scope.names.lookup x = some .local := by first | exact .inl rfl | exact .inr rfl | assumption) :
    PSw X (.Assign [.Name x pos'] e pos) (mAsg me (tgN i)) := by
  obtain ⟨t, he, re⟩ := he
  refine ⟨_, ps_set hN hi hx he hs hf, ?_⟩
  intro B m r s S H D f r' S' R E h k
  simp only [mAsg, tgN, Option.bind_eq_some_iff] at h
  obtain ⟨⟨x, S1⟩, h1, ⟨r2, S2⟩, h2, h3⟩ := h
  cases h2
  cases h3
  exact re B m r s S H _ x _ R E h1 fun B1 m1 H1 v s1 R1 p1 => k B1 m1 H1 _ s1 R1 ((E.mono s1 R.inB).set p1 i)
/-- a, b = e1, e2 -/
def mPar (i j : Nat) (a : AM) (r : Ev) (S : Sto) : Option (Fl × Ev × Sto) := (a r S).bind fun p => match p.1 with
  | [v, w] => some (.nx, (r.set i (some v)).set j (some w), p.2)
  | _ => none
theorem ws_par {i j : Nat} {x y : Str} {a b : Expr} {ma : AM} {px py pt : Pos} {kt k2 pt2} (hc : X.calm = true) (hN : X.N.Nodup) (ha : PAw X [a, b] ma) (hw : swappedStores [.Tuple [.Name x px, .Name y py] kt pt] (.Tuple [a, b] k2 pt2) X.env = pure (some [x, y])) (hi : X.N[i]? = some x := by rfl) (hj : X.N[j]? = some y := by rfl) (hij : i ≠ j := by decide)
    (hx : X.env.scope.names.lookup x = some .local := by rfl) (hy : X.env.scope.names.lookup y = some .local := by rfl)
    (hs : swapsWithSole [.Tuple [.Name x px, .Name y py] kt pt] (.Tuple [a, b] k2 pt2) pos.line X.env = pure false := by rfl) :
    PSw X (.Assign [.Tuple [.Name x px, .Name y py] kt pt] (.Tuple [a, b] k2 pt2) pos) (mPar i j ma) := by
  obtain ⟨t, ha, ra⟩ := ha
  refine ⟨_, ps_par hc hN hi hj hij hx hy ha hw hs, ?_⟩
  intro B m r s S H D f r' S' R E h k
  simp only [mPar, Option.bind_eq_some_iff] at h
  obtain ⟨⟨ws, S1⟩, h1, h2⟩ := h
  simp only at h2
  split at h2
  · cases h2
    refine ra B m r s S H _ _ _ R E h1 fun B1 m1 H1 vs s1 R1 p1 => ?_
    cases p1 with
    | cons pv p1 =>
    cases p1 with
    | cons pw p1 =>
    cases p1
    exact ⟨_, _, rfl, k B1 m1 H1 _ s1 R1 (((E.mono s1 R.inB).set pv i).set pw j)⟩
  · cases h2
/-- x op= e -/
def IpW (X : Cx) (op : Operator) (g : GM) : Prop := ∃ r, PIp X op r ∧ ∀ B m S H x y vx vy (Q : VK) w S', Rel X.K X.mg B m S H → Rp X.K X.mg B m H x vx → Rp X.K X.mg B m H y vy → g x y S = some (w, S') →
  (∀ B' m' H' v, Stp B m H B' m' H' → Rel X.K X.mg B' m' S' H' → Rp X.K X.mg B' m' H' w v → Q v H') → r vx vy H Q
@[simp] def addI : GM := iiW fun i j => .int (i + j)
theorem p_add : IpW X .Add addI := by
  refine ⟨_, ip_add, ?_⟩
  intro B m S H x y vx vy Q w S' R px py e k
  cases px <;> cases py <;> simp only [addI, iiW, Option.some.injEq, Prod.mk.injEq, reduceCtorEq] at e
  obtain ⟨rfl, rfl⟩ := e
  exact ⟨_, _, rfl, rfl, k B m H _ .refl R (.int _)⟩
theorem p_sub : IpW X .Sub subW := by
  refine ⟨_, ip_sub, ?_⟩
  intro B m S H x y vx vy Q w S' R px py e k
  cases px <;> cases py <;> simp only [subW, iiW, Option.some.injEq, Prod.mk.injEq, reduceCtorEq] at e
  obtain ⟨rfl, rfl⟩ := e
  exact ⟨_, _, rfl, rfl, k B m H _ .refl R (.int _)⟩
def mAug (i : Nat) (g : GM) (e : EM) (r : Ev) (S : Sto) : Option (Fl × Ev × Sto) := match r[i]? with
  | some (some x) => (e r S).bind fun p => (g x p.1 p.2).bind fun q => some (.nx, r.set i (some q.1), q.2)
  | _ => none
theorem ws_aug {i : Nat} {x : Str} {e : Expr} {me : EM} {op : Operator} {g : GM} {pos' : Pos} (hN : X.N.Nodup) (ho : IpW X op g) (he : PEw X e me) (hi : X.N[i]? = some x := by rfl) (hx : Loc X.env.scope x := by first | exact Or.inl rfl | exact Or.inr rfl) (hf : X.fn x = true ∨ X.env.scope.names.lookup x = some .local := by first | exact .inl rfl | exact .inr rfl | assumption) :
    PSw X (.AugAssign (.Name x pos') op e pos) (mAug i g me) := by
  obtain ⟨t, ho, rr⟩ := ho
  obtain ⟨te, he, re⟩ := he
  refine ⟨_, ps_aug hN hi hx he ho hf, ?_⟩
  intro B m r s S H D f r' S' R E h k
  unfold mAug at h
  split at h
  · rename_i w hw
    simp only [Option.bind_eq_some_iff] at h
    obtain ⟨⟨y, S1⟩, h1, ⟨z, S2⟩, h2, h3⟩ := h
    cases h3
    obtain ⟨v, hv, pv⟩ := E.get hw
    refine ⟨v, hv, re B m r s S H _ y S1 R E h1 fun B1 m1 H1 vy s1 R1 p1 => ?_⟩
    exact rr B1 m1 S1 H1 w y v vy _ z _ R1 (pv.mono s1 R.inB) p1 h2 fun B2 m2 H2 vz s2 R2 p2 => k B2 m2 H2 _ (s1.trans s2) R2 (((E.mono s1 R.inB).mono s2 R1.inB).set p2 i)
  · cases h
end

/-! ### loops -/
structure Src where
  items : List W
  live : Option Nat := none
@[simp] def Src.ok (s : Src) (S : Sto) : Bool := match s.live with
  | none => true
  | some k => match S[k]? with
    | some (.lst ws) => beqs ws s.items
    | _ => false
abbrev IM := Ev → Sto → Option (Src × Sto)
def forL (ok : Sto → Bool) (tg : TgM) (body : SM) : List W → Ev → Sto → Option (Fl × Ev × Sto)
  | [], r, S => if ok S = true then some (.nx, r, S) else none
  | w :: ws, r, S => if ok S = true then (tg w r S).bind fun p => (body p.1 p.2).bind fun q => match q.1 with
      | .nx => forL ok tg body ws q.2.1 q.2.2
      | .ct => forL ok tg body ws q.2.1 q.2.2
      | .bk => some (.nx, q.2)
      | .rt v => some (.rt v, q.2)
    else none
def mFor (it : IM) (tg : TgM) (body : SM) (r : Ev) (S : Sto) : Option (Fl × Ev × Sto) := (it r S).bind fun p => forL p.1.ok tg body p.1.items r p.2
def Good (X : Cx) (src : Src) (J : It) (B0 : Addr → Prop) (m0 : List Addr) (H0 : Hp) : Prop := ∀ B m S H, Stp B0 m0 H0 B m H → Rel X.K X.mg B m S H → src.ok S = true →
  ∀ i : Nat, (∀ w, src.items[i]? = some w → J.go i H ∧ ∀ x H', J.yld i H x H' → ∃ B' m', Stp B m H B' m' H' ∧ Rel X.K X.mg B' m' S H' ∧ Rp X.K X.mg B' m' H' w x) ∧ (src.items.length ≤ i → J.stop i H)
structure PIw (X : Cx) (tg iter : Expr) (M : IM) : Prop where
  ex : ∃ wi, PI X tg iter wi ∧ ∀ B m r s S H (Q : It → Hp → Prop) src S', Rel X.K X.mg B m S H → EvR X.K X.mg B m H r s → M r S = some (src, S') →
    (∀ B' m' H' J, Stp B m H B' m' H' → Rel X.K X.mg B' m' S' H' → Good X src J B' m' H' → Q J H') → wi s H Q
def itSeq (a : EM) (r : Ev) (S : Sto) : Option (Src × Sto) := (a r S).bind fun p => match p.1 with
  | .lst ws => some (⟨ws, none⟩, p.2)
  | .lsr ws => some (⟨ws, none⟩, p.2)
  | .ref k => match p.2[k]? with
    | some (.lst ws) => some (⟨ws, some k⟩, p.2)
    | _ => none
  | _ => none
def itTup (a : EM) (r : Ev) (S : Sto) : Option (Src × Sto) := (a r S).bind fun p => match p.1 with
  | .tup ws => some (⟨ws, none⟩, p.2)
  | _ => none
def rangeW (lo : Int) (n : Nat) : List W := (List.range n).map fun i => .int (lo + (i : Nat))
def itRg1 (a : AM) (r : Ev) (S : Sto) : Option (Src × Sto) := (a r S).bind fun p => match p.1 with
  | [.int j] => if -(2 ^ 62) ≤ j ∧ j < 2 ^ 62 then some (⟨rangeW 0 j.toNat, none⟩, p.2) else none
  | _ => none
def itRg2 (a : AM) (r : Ev) (S : Sto) : Option (Src × Sto) := (a r S).bind fun p => match p.1 with
  | [.int i, .int j] => if -(2 ^ 62) ≤ i ∧ i < 2 ^ 62 ∧ -(2 ^ 62) ≤ j ∧ j < 2 ^ 62 then some (⟨rangeW i (j - i).toNat, none⟩, p.2) else none
  | _ => none
section
variable {X : Cx} {tg : Expr} {pos : Pos}
theorem good_list {B : Addr → Prop} {m : List Addr} {H : Hp} {a : Addr} {ws : List W} {vs : List V} (sub : ∀ b ∈ m, B b) (f : FL X.K B H a vs) (p : Rps X.K X.mg B m H ws vs) : Good X ⟨ws, none⟩ (Itl X.K a) B m H := by
  intro B1 m1 S H1 st R _ i
  have f1 := f.mono st sub
  have p1 := p.mono st sub
  refine ⟨fun w hw => ?_, fun hl => ⟨vs, f1.seq, by rw [← p1.length]; exact hl⟩⟩
  obtain ⟨v, hv, pv⟩ := p1.get hw
  refine ⟨⟨vs, v, f1.seq, hv⟩, fun x H' y => ?_⟩
  obtain ⟨e, y⟩ := y
  subst e
  refine ⟨B1, m1, .refl, R, ?_⟩
  have := y vs f1.seq
  rw [hv] at this; cases this
  exact pv
theorem good_tup {B : Addr → Prop} {m : List Addr} {H : Hp} {a : Addr} {ws : List W} {vs : List V} (sub : ∀ b ∈ m, B b) (f : FT X.K B H a vs) (p : Rps X.K X.mg B m H ws vs) : Good X ⟨ws, none⟩ (Itt X.K a) B m H := by
  intro B1 m1 S H1 st R _ i
  have f1 := f.mono st sub
  have p1 := p.mono st sub
  refine ⟨fun w hw => ?_, fun hl => ⟨vs, f1.seq, by rw [← p1.length]; exact hl⟩⟩
  obtain ⟨v, hv, pv⟩ := p1.get hw
  refine ⟨⟨vs, v, f1.seq, hv⟩, fun x H' y => ?_⟩
  obtain ⟨e, y⟩ := y
  subst e
  refine ⟨B1, m1, .refl, R, ?_⟩
  have := y vs f1.seq
  rw [hv] at this; cases this
  exact pv
theorem good_live {B : Addr → Prop} {m : List Addr} {H : Hp} {a : Addr} {k : Nat} {ws : List W} (hk : m[k]? = some a) : Good X ⟨ws, some k⟩ (Itl X.K a) B m H := by
  intro B1 m1 S H1 st R ok i
  have hk1 : m1[k]? = some a := by
    obtain ⟨nw, e, _⟩ := st.pre
    rw [e, List.getElem?_append_left (List.getElem?_eq_some_iff.mp hk).1]
    exact hk
  have ok' : (match S[k]? with
    | some (.lst us) => beqs us ws
    | _ => false) = true := ok
  split at ok'
  · rename_i us hs
    have e := beqs_eq _ _ ok'
    subst e
    obtain ⟨a', h1, vs, h2, h3⟩ := R.at hs
    rw [hk1] at h1; cases h1
    refine ⟨fun w hw => ?_, fun hl => ⟨vs, SqL.of h2, by rw [← h3.length]; exact hl⟩⟩
    obtain ⟨v, hv, pv⟩ := h3.get hw
    refine ⟨⟨vs, v, SqL.of h2, hv⟩, fun x H' y => ?_⟩
    obtain ⟨e, y⟩ := y
    subst e
    refine ⟨B1, m1, .refl, R, ?_⟩
    have := y vs (SqL.of h2)
    rw [hv] at this; cases this
    exact pv
  · cases ok'
theorem good_range {B : Addr → Prop} {m : List Addr} {H : Hp} {lo : Int} {n : Nat} : Good X ⟨rangeW lo n, none⟩ (Itr lo n) B m H := by
  intro B1 m1 S H1 st R _ i
  refine ⟨fun w hw => ?_, fun hl => by
    have : n ≤ i := by simpa [rangeW] using hl
    exact this⟩
  simp only [rangeW, List.getElem?_map, Option.map_eq_some_iff] at hw
  obtain ⟨j, hj, rfl⟩ := hw
  have hj' := List.getElem?_eq_some_iff.mp hj
  obtain ⟨hlt, e⟩ := hj'
  simp at hlt e
  subst e
  refine ⟨hlt, fun x H' y => ?_⟩
  obtain ⟨e, y⟩ := y
  subst e y
  exact ⟨B1, m1, .refl, R, .int _⟩
theorem wi_seq {l : Expr} {ml : EM} (hl : PEw X l ml) : PIw X tg l (itSeq ml) := by
  obtain ⟨t, hl, rl⟩ := hl
  refine ⟨_, pi_list hl, ?_⟩
  intro B m r s S H Q src S' R E h k
  simp only [itSeq, Option.bind_eq_some_iff] at h
  obtain ⟨⟨x, S1⟩, h1, h2⟩ := h
  simp only at h2
  split at h2
  · cases h2
    refine rl B m r s S H _ _ _ R E h1 fun B1 m1 H1 v s1 R1 p1 => ?_
    cases p1 with
    | lst n f p => exact ⟨_, rfl, ⟨_, SqL.of f⟩, k B1 m1 H1 _ s1 R1 (good_list R1.inB (.inl ⟨n, .inl f⟩) p)⟩
  · cases h2
    refine rl B m r s S H _ _ _ R E h1 fun B1 m1 H1 v s1 R1 p1 => ?_
    cases p1 with
    | lsr f p => exact ⟨_, rfl, ⟨_, f.seq⟩, k B1 m1 H1 _ s1 R1 (good_list R1.inB f p)⟩
  · split at h2
    · rename_i ws hs
      cases h2
      refine rl B m r s S H _ _ _ R E h1 fun B1 m1 H1 v s1 R1 p1 => ?_
      cases p1 with
      | ref hk =>
        obtain ⟨a', h3, vs, h4, h5⟩ := R1.at hs
        rw [hk] at h3; cases h3
        exact ⟨_, rfl, ⟨_, SqL.of h4⟩, k B1 m1 H1 _ s1 R1 (good_live hk)⟩
    · cases h2
  · cases h2
theorem wi_tup {l : Expr} {ml : EM} (hl : PEw X l ml) : PIw X tg l (itTup ml) := by
  obtain ⟨t, hl, rl⟩ := hl
  refine ⟨_, pi_tup hl, ?_⟩
  intro B m r s S H Q src S' R E h k
  simp only [itTup, Option.bind_eq_some_iff] at h
  obtain ⟨⟨x, S1⟩, h1, h2⟩ := h
  simp only at h2
  split at h2
  · cases h2
    refine rl B m r s S H _ _ _ R E h1 fun B1 m1 H1 v s1 R1 p1 => ?_
    cases p1 with
    | tup f p => exact ⟨_, rfl, ⟨_, f.seq⟩, k B1 m1 H1 _ s1 R1 (good_tup R1.inB f p)⟩
  · cases h2
theorem wi_rg1 {a : Expr} {ma : AM} {p : Pos} (hg : Gl X "range") (hm : X.mg "range" = none) (ha : PAw X [a] ma) (hs : starEach [a] X.env = [(false, eval a X.env)] := by rfl) : PIw X tg (.Call (.Name "range" p) [a] [] pos) (itRg1 ma) := by
  obtain ⟨t, ha, ra⟩ := ha
  refine ⟨_, pi_range1 hg hm ha hs, ?_⟩
  intro B m r s S H Q src S' R E h k
  simp only [itRg1, Option.bind_eq_some_iff] at h
  obtain ⟨⟨x, S1⟩, h1, h2⟩ := h
  simp only at h2
  split at h2
  · split at h2
    · rename_i hb
      cases h2
      refine ra B m r s S H _ _ _ R E h1 fun B1 m1 H1 v s1 R1 p1 => ?_
      cases p1 with
      | cons px pn =>
      cases pn; cases px
      exact ⟨_, rfl, hb.1, hb.2, k B1 m1 H1 _ s1 R1 good_range⟩
    · cases h2
  · cases h2
theorem wi_rg2 {a b : Expr} {ma : AM} {p : Pos} (hg : Gl X "range") (hm : X.mg "range" = none) (ha : PAw X [a, b] ma) (hs : starEach [a, b] X.env = [(false, eval a X.env), (false, eval b X.env)] := by rfl) (hs2 : starEach [b] X.env = [(false, eval b X.env)] := by rfl) : PIw X tg (.Call (.Name "range" p) [a, b] [] pos) (itRg2 ma) := by
  obtain ⟨t, ha, ra⟩ := ha
  refine ⟨_, pi_range2 hg hm ha hs hs2, ?_⟩
  intro B m r s S H Q src S' R E h k
  simp only [itRg2, Option.bind_eq_some_iff] at h
  obtain ⟨⟨x, S1⟩, h1, h2⟩ := h
  simp only at h2
  split at h2
  · split at h2
    · rename_i hb
      cases h2
      refine ra B m r s S H _ _ _ R E h1 fun B1 m1 H1 v s1 R1 p1 => ?_
      cases p1 with
      | cons px pn =>
      cases pn with
      | cons py pn =>
      cases pn; cases px; cases py
      exact ⟨_, _, rfl, hb, k B1 m1 H1 _ s1 R1 good_range⟩
    · cases h2
  · cases h2
theorem ws_for {iter : Expr} {body : List Stmt} {ix : List Nat} {mi : IM} {g : TgM} {mb : SM} (hp : PassesOwn (model X.prog X.w) X.A X.env X.xe) (hc : X.calm = true) (hi : PIw X tg iter mi) (hg : PGw X ix tg g) (hb : PSsw X body mb)
    (hs : ∀ x, foldedSetIterable iter X.env x = pure x := by intro _; rfl) : PSw X (.For tg iter body [] pos) (mFor mi g mb) := by
  obtain ⟨ti, hi, ri⟩ := hi
  obtain ⟨tgt, hg, rg⟩ := hg
  obtain ⟨tb, hb, rb⟩ := hb
  refine ⟨_, ps_for hp hc hi hg hb hs, ?_⟩
  intro B m r s S H D f r' S' R E h k
  simp only [mFor, Option.bind_eq_some_iff] at h
  obtain ⟨⟨src, S1⟩, h1, h2⟩ := h
  simp only at h2
  refine ri B m r s S H _ src S1 R E h1 fun B1 m1 H1 J s1 R1 gd => ?_
  refine ⟨fun i n σ H => ∃ B2 m2 S2 r2, Stp B1 m1 H1 B2 m2 H ∧ Rel X.K X.mg B2 m2 S2 H ∧ EvR X.K X.mg B2 m2 H r2 σ ∧ i ≤ src.items.length ∧ n = src.items.length - i ∧ forL src.ok g mb (src.items.drop i) r2 S2 = some (f, r', S'),
    ⟨_, B1, m1, S1, r, .refl, R1, E.mono s1 R.inB, Nat.zero_le _, rfl, by simpa using h2⟩, ?_⟩
  rintro i n σ H2 ⟨B2, m2, S2, r2, st, R2, E2, hi', rfl, hf⟩
  by_cases hlt : i < src.items.length
  · have hd : src.items.drop i = src.items[i] :: src.items.drop (i + 1) := List.drop_eq_getElem_cons hlt
    rw [hd] at hf
    unfold forL at hf
    split at hf
    · rename_i hok
      simp only [Option.bind_eq_some_iff] at hf
      obtain ⟨⟨r3, S3⟩, h3, ⟨f4, r4, S4⟩, h4, h5⟩ := hf
      obtain ⟨go, yl⟩ := (gd B2 m2 S2 H2 st R2 hok i).1 src.items[i] (List.getElem?_eq_getElem hlt)
      refine .inr ⟨go, fun σ' H' => ∃ B2 m2 S2 r2, Stp B1 m1 H1 B2 m2 H' ∧ Rel X.K X.mg B2 m2 S2 H' ∧ EvR X.K X.mg B2 m2 H' r2 σ' ∧ forL src.ok g mb (src.items.drop (i + 1)) r2 S2 = some (f, r', S'), fun σ' H' ⟨B5, m5, S5, r5, a1, a2, a3, a4⟩ => ⟨src.items.length - (i + 1), by omega, B5, m5, S5, r5, a1, a2, a3, hlt, rfl, a4⟩, fun x H' y => ?_⟩
      obtain ⟨B3, m3, st3, R3, p3⟩ := yl x H' y
      refine rg B3 m3 r2 σ S2 H' _ x _ r3 S3 R3 (E2.mono st3 R2.inB) p3 h3 fun B4 m4 H4 σ4 st4 R4 E4 _ => ?_
      have stA := (st.trans st3).trans st4
      refine rb B4 m4 r3 σ4 S3 H4 _ f4 r4 S4 R4 E4 h4 ?_
      cases f4 with
      | nx => exact fun B5 m5 H5 σ5 st5 R5 E5 => ⟨B5, m5, S4, r4, stA.trans st5, R5, E5, h5⟩
      | ct => exact fun B5 m5 H5 σ5 st5 R5 E5 => ⟨B5, m5, S4, r4, stA.trans st5, R5, E5, h5⟩
      | bk =>
        simp only [Option.some.injEq, Prod.mk.injEq] at h5
        obtain ⟨rfl, rfl, rfl⟩ := h5
        exact fun B5 m5 H5 σ5 st5 R5 E5 => k B5 m5 H5 σ5 (s1.trans (stA.trans st5)) R5 E5
      | rt v =>
        simp only [Option.some.injEq, Prod.mk.injEq] at h5
        obtain ⟨rfl, rfl, rfl⟩ := h5
        exact fun B5 m5 H5 v5 st5 R5 E5 => k B5 m5 H5 v5 (s1.trans (stA.trans st5)) R5 E5
    · cases hf
  · have e : i = src.items.length := by omega
    subst e
    rw [List.drop_length] at hf
    unfold forL at hf
    split at hf
    · rename_i hok
      simp only [Option.some.injEq, Prod.mk.injEq] at hf
      obtain ⟨rfl, rfl, rfl⟩ := hf
      exact .inl ⟨(gd B2 m2 S2 H2 st R2 hok _).2 (Nat.le_refl _), k B2 m2 H2 σ (s1.trans st) R2 E2⟩
    · cases hf
def whileN (c : TM) (b : SM) : Nat → Ev → Sto → Option (Fl × Ev × Sto)
  | 0, _, _ => none
  | n + 1, r, S => (c r S).bind fun p => if p.1 = true then (b r p.2).bind fun q => match q.1 with
      | .nx => whileN c b n q.2.1 q.2.2
      | .ct => whileN c b n q.2.1 q.2.2
      | .bk => some (.nx, q.2)
      | .rt v => some (.rt v, q.2)
    else some (.nx, r, p.2)
theorem ws_while {c : Expr} {body : List Stmt} {mc : TM} {mb : SM} (n : Nat) (hp : PassesOwn (model X.prog X.w) X.A X.env X.xe) (hc : PTw X c mc) (hb : PSsw X body mb) : PSw X (.While c body [] pos) (whileN mc mb n) := by
  obtain ⟨tc, hc, rc⟩ := hc
  obtain ⟨tb, hb, rb⟩ := hb
  refine ⟨_, ps_while hp hc hb, ?_⟩
  intro B m r s S H D f r' S' R E h k
  refine ⟨fun n σ H' => ∃ B2 m2 S2 r2, Stp B m H B2 m2 H' ∧ Rel X.K X.mg B2 m2 S2 H' ∧ EvR X.K X.mg B2 m2 H' r2 σ ∧ whileN mc mb n r2 S2 = some (f, r', S'), ⟨n, B, m, S, r, .refl, R, E, h⟩, ?_⟩
  rintro n σ H2 ⟨B2, m2, S2, r2, st, R2, E2, hw⟩
  cases n with
  | zero => cases hw
  | succ n =>
    simp only [whileN, Option.bind_eq_some_iff] at hw
    obtain ⟨⟨x, S3⟩, h3, h4⟩ := hw
    refine rc B2 m2 r2 σ S2 H2 _ x S3 R2 E2 h3 fun B3 m3 H3 s3 R3 => ?_
    simp only at h4
    split at h4
    · rename_i hx
      rw [if_pos hx]
      simp only [Option.bind_eq_some_iff] at h4
      obtain ⟨⟨f4, r4, S4⟩, h5, h6⟩ := h4
      refine ⟨fun σ' H' => ∃ B2 m2 S2 r2, Stp B m H B2 m2 H' ∧ Rel X.K X.mg B2 m2 S2 H' ∧ EvR X.K X.mg B2 m2 H' r2 σ' ∧ whileN mc mb n r2 S2 = some (f, r', S'), fun σ' H' q => ⟨n, Nat.lt_succ_self n, q⟩, ?_⟩
      have stA := st.trans s3
      refine rb B3 m3 r2 σ S3 H3 _ f4 r4 S4 R3 (E2.mono s3 R2.inB) h5 ?_
      cases f4 with
      | nx => exact fun B5 m5 H5 σ5 st5 R5 E5 => ⟨B5, m5, S4, r4, stA.trans st5, R5, E5, h6⟩
      | ct => exact fun B5 m5 H5 σ5 st5 R5 E5 => ⟨B5, m5, S4, r4, stA.trans st5, R5, E5, h6⟩
      | bk =>
        simp only [Option.some.injEq, Prod.mk.injEq] at h6
        obtain ⟨rfl, rfl, rfl⟩ := h6
        exact fun B5 m5 H5 σ5 st5 R5 E5 => k B5 m5 H5 σ5 (stA.trans st5) R5 E5
      | rt v =>
        simp only [Option.some.injEq, Prod.mk.injEq] at h6
        obtain ⟨rfl, rfl, rfl⟩ := h6
        exact fun B5 m5 H5 v5 st5 R5 E5 => k B5 m5 H5 v5 (stA.trans st5) R5 E5
    · rename_i hx
      rw [if_neg hx]
      simp only [Option.some.injEq, Prod.mk.injEq] at h4
      obtain ⟨rfl, rfl, rfl⟩ := h4
      exact k B3 m3 H3 σ (st.trans s3) R3 (E2.mono s3 R2.inB)
end
end Zw
set_option maxRecDepth 100000
namespace Zw
open PySem L2

section
variable {K : PySem.W.Frag} {mg : Str → Option Value} {B B' : Addr → Prop} {m m' : List Addr} {S S' : Sto} {H H' : Hp} {D : Addr}
mutual
/-- fewer protected places -/
theorem Rp.less (sub : ∀ a, B' a → B a) : ∀ {w : W} {v : V}, Rp K mg B m H w v → Rp K mg B' m H w v
  | _, _, .non => .non
  | _, _, .bl b => .bl b
  | _, _, .int i => .int i
  | _, _, .str z => .str z
  | _, _, .tup f r => .tup (f.elim (fun f => .inl ⟨fun z => f.1 (sub _ z), f.2⟩) .inr) (Rps.less sub r)
  | _, _, .lst n h r => .lst (fun z => n (sub _ z)) h (Rps.less sub r)
  | _, _, .lsr f r => .lsr (f.elim (fun f => .inl ⟨fun z => f.1 (sub _ z), f.2⟩) .inr) (Rps.less sub r)
  | _, _, .ins n g h l r => .ins (fun z => n (sub _ z)) g h l (Rps.less sub r)
  | _, _, .glo g => .glo g
  | _, _, .ty g => .ty g
  | _, _, .ref h => .ref h
theorem Rps.less (sub : ∀ a, B' a → B a) : ∀ {ws : List W} {vs : List V}, Rps K mg B m H ws vs → Rps K mg B' m H ws vs
  | _, _, .nil => .nil
  | _, _, .cons r t => .cons (Rp.less sub r) (Rps.less sub t)
end
theorem Rd.off {a : Addr} {u o : HO} (hD : B D) (n : ¬ B a) (r : Rd H a u) : Rd (upd H D o) a u := by
  have e : a ≠ D := fun z => n (z ▸ hD)
  rcases r with r | ⟨q, r⟩
  · exact .inl (by rw [upd_ne e]; exact r)
  · exact .inr ⟨q, by rw [upd_ne e]; exact r⟩
mutual
/-- a protected place changes -/
theorem Rp.off {o : HO} (hD : B D) : ∀ {w : W} {v : V}, Rp K mg B m H w v → Rp K mg B m (upd H D o) w v
  | _, _, .non => .non
  | _, _, .bl b => .bl b
  | _, _, .int i => .int i
  | _, _, .str z => .str z
  | _, _, .tup f r => .tup (f.elim (fun f => .inl ⟨f.1, Rd.off hD f.1 f.2⟩) .inr) (Rps.off hD r)
  | _, _, .lst n h r => .lst n (by rw [upd_ne (fun z => n (by rw [z]; exact hD))]; exact h) (Rps.off hD r)
  | _, _, .lsr f r => .lsr (f.elim (fun f => .inl ⟨f.1, Rd.off hD f.1 f.2⟩) .inr) (Rps.off hD r)
  | _, _, .ins n g h l r => .ins n g (by rw [upd_ne (fun z => n (by rw [z]; exact hD))]; exact h) l (Rps.off hD r)
  | _, _, .glo g => .glo g
  | _, _, .ty g => .ty g
  | _, _, .ref h => .ref h
theorem Rps.off {o : HO} (hD : B D) : ∀ {ws : List W} {vs : List V}, Rps K mg B m H ws vs → Rps K mg B m (upd H D o) ws vs
  | _, _, .nil => .nil
  | _, _, .cons r t => .cons (Rp.off hD r) (Rps.off hD t)
end
theorem OR.off {o : HO} {a : Addr} {ob : Ob} (hD : B D) (n : a ≠ D) (h : OR K mg B m H a ob) : OR K mg B m (upd H D o) a ob := by
  cases ob with
  | lst ws => obtain ⟨vs, h1, h2⟩ := h; exact ⟨vs, by rw [upd_ne n]; exact h1, h2.off hD⟩
  | dK kvs => obtain ⟨vs, h1, h2⟩ := h; exact ⟨vs, by rw [upd_ne n]; exact h1, Paired.mapP h2 fun _ _ q => ⟨q.1, q.2.off hD⟩⟩
  | dT kvs => obtain ⟨vs, h1, h2⟩ := h; exact ⟨vs, by rw [upd_ne n]; exact h1, Paired.mapP h2 fun _ _ q => ⟨q.1, q.2.off hD⟩⟩
  | ins c fs => obtain ⟨C, dx, vs, h0, h1, h2⟩ := h; exact ⟨C, dx, vs, h0, by rw [upd_ne n]; exact h1, Paired.mapP h2 fun _ _ q => ⟨q.1, q.2.off hD⟩⟩
theorem OR.less {a : Addr} {ob : Ob} (sub : ∀ a, B' a → B a) (h : OR K mg B m H a ob) : OR K mg B' m H a ob := by
  cases ob with
  | lst ws => obtain ⟨vs, h1, h2⟩ := h; exact ⟨vs, h1, h2.less sub⟩
  | dK kvs => obtain ⟨vs, h1, h2⟩ := h; exact ⟨vs, h1, Paired.mapP h2 fun _ _ q => ⟨q.1, q.2.less sub⟩⟩
  | dT kvs => obtain ⟨vs, h1, h2⟩ := h; exact ⟨vs, h1, Paired.mapP h2 fun _ _ q => ⟨q.1, q.2.less sub⟩⟩
  | ins c fs => obtain ⟨C, dx, vs, h0, h1, h2⟩ := h; exact ⟨C, dx, vs, h0, h1, Paired.mapP h2 fun _ _ q => ⟨q.1, q.2.less sub⟩⟩
theorem Rel.off {o : HO} (R : Rel K mg B m S H) (hD : B D) (n : D ∉ m) : Rel K mg B m S (upd H D o) :=
  ⟨R.nodup, R.len, R.inB, fun a z => by
    by_cases e : a = D
    · subst e; exact ⟨o, upd_same⟩
    · obtain ⟨u, q⟩ := R.trk a z
      exact ⟨u, by rw [upd_ne e]; exact q⟩, fun k a u e1 e2 => (R.obj k a u e1 e2).off hD fun z => n (z ▸ List.mem_of_getElem? e1)⟩
theorem Stp.off {o : HO} (st : Stp B m H B' m' H') (h : H D = none) : Stp B m H B' m' (upd H' D o) :=
  ⟨st.pre, st.grow, st.new, fun a u q n => by rw [upd_ne (ne_of_none q h)]; exact st.keep a u q n, fun a u q => by rw [upd_ne (ne_of_none q h)]; exact st.there a u q⟩
theorem Rel.prot {o : HO} (R : Rel K mg B m S H) (h : H D = none) : Rel K mg (fun a => B a ∨ a = D) m S (upd H D o) := by
  have st : Stp B m H (fun a => B a ∨ a = D) m (upd H D o) :=
    ⟨⟨[], by simp, by simp⟩, fun _ h => .inl h, fun a z n => z.elim (fun z => absurd z n) fun z => by rw [z]; exact h, fun a u q _ => by rw [upd_ne (ne_of_none q h)]; exact q, fun a u q => ⟨u, by rw [upd_ne (ne_of_none q h)]; exact q⟩⟩
  refine ⟨R.nodup, R.len, fun a z => .inl (R.inB a z), fun a z => ?_, fun k a u e1 e2 => (R.obj k a u e1 e2).mono st R.inB fun z q => by rw [upd_ne (ne_of_none q h)]; exact q⟩
  rcases z with z | z
  · obtain ⟨u, q⟩ := R.trk a z
    exact ⟨u, by rw [upd_ne (ne_of_none q h)]; exact q⟩
  · subst z; exact ⟨o, upd_same⟩
theorem Stp.prot {o : HO} (h : H D = none) : Stp B m H (fun a => B a ∨ a = D) m (upd H D o) :=
  ⟨⟨[], by simp, by simp⟩, fun _ h => .inl h, fun a z n => z.elim (fun z => absurd z n) fun z => by rw [z]; exact h, fun a u q _ => by rw [upd_ne (ne_of_none q h)]; exact q, fun a u q => ⟨u, by rw [upd_ne (ne_of_none q h)]; exact q⟩⟩
theorem Stp.carry {o : HO} (st : Stp B m H B' m' H') (hD : B D) (n : D ∉ m) (h : H D = some o) : B' D ∧ D ∉ m' ∧ H' D = some o := by
  refine ⟨st.grow D hD, fun z => ?_, st.keep D o h n⟩
  obtain ⟨nw, e, f⟩ := st.pre
  rw [e] at z
  rcases List.mem_append.mp z with z | z
  · exact n z
  · rw [f D z] at h; cases h
end

/-! ### readings by the functions themselves -/
section
variable (K : PySem.W.Frag) (mg : Str → Option Value)
def tE (M : EM) : TE := fun s H Q => ∃ B m r S w S', Rel K mg B m S H ∧ EvR K mg B m H r s ∧ M r S = some (w, S') ∧ ∀ B' m' H' v, Stp B m H B' m' H' → Rel K mg B' m' S' H' → Rp K mg B' m' H' w v → Q v H'
def tT (M : TM) : TT := fun s H Q => ∃ B m r S b S', Rel K mg B m S H ∧ EvR K mg B m H r s ∧ M r S = some (b, S') ∧ ∀ B' m' H', Stp B m H B' m' H' → Rel K mg B' m' S' H' → Q b H'
def tG (ix : List Nat) (M : TgM) : TG := fun v s H Q => ∃ B m r S w r' S', Rel K mg B m S H ∧ EvR K mg B m H r s ∧ Rp K mg B m H w v ∧ M w r S = some (r', S') ∧ ∀ B' m' H' s', Stp B m H B' m' H' → Rel K mg B' m' S' H' → EvR K mg B' m' H' r' s' → Kept ix s s' → Q s' H'
end
section
variable {X : Cx}
theorem PEw.can {e : Expr} {M : EM} (h : PEw X e M) : PE X e (tE X.K X.mg M) := by
  obtain ⟨t, h, r⟩ := h
  refine ⟨fun pins s σ H Q I q => ?_⟩
  obtain ⟨B, m, rr, S, w, S', R, E, e, k⟩ := q
  exact h.run pins s σ H Q I (r B m rr σ S H Q w S' R E e k)
theorem PTw.can {e : Expr} {M : TM} (h : PTw X e M) : PT X e (tT X.K X.mg M) := by
  obtain ⟨t, h, r⟩ := h
  refine ⟨fun pins s σ H Q I q => ?_⟩
  obtain ⟨B, m, rr, S, w, S', R, E, e, k⟩ := q
  exact h.run pins s σ H Q I (r B m rr σ S H Q w S' R E e k)
theorem PGw.can {e : Expr} {ix : List Nat} {M : TgM} (h : PGw X ix e M) : PG X e (tG X.K X.mg ix M) := by
  obtain ⟨t, h, r⟩ := h
  refine ⟨fun pins s σ H v u Q I rv q => ?_⟩
  obtain ⟨B, m, rr, S, w, r', S', R, E, p, e, k⟩ := q
  exact h.run pins s σ H v u Q I rv (r B m rr σ S H w v Q r' S' R E p e k)
structure PTsw (X : Cx) (ifs : List Expr) (M : TM) : Prop where
  can : PTs X ifs (tT X.K X.mg M)
def mYes (_ : Ev) (S : Sto) : Option (Bool × Sto) := some (true, S)
theorem wts_nil : PTsw X [] mYes := ⟨⟨fun pins s σ H Q I q => by
  obtain ⟨B, m, rr, S, w, S', R, E, e, k⟩ := q
  cases e
  exact pts_nil.run pins s σ H Q I (k B m H .refl R)⟩⟩
theorem wts_one {c : Expr} {M : TM} (h : PTw X c M) : PTsw X [c] M := ⟨pts_one h.can⟩
end

/-! ### comprehensions -/
def compL (ok : Sto → Bool) (tg : TgM) (ts : TM) (el : EM) : List W → Ev → Sto → List W → Option (List W × Sto)
  | [], _, S, acc => if ok S = true then some (acc, S) else none
  | w :: ws, r, S, acc => if ok S = true then (tg w r S).bind fun p => (ts p.1 p.2).bind fun b => if b.1 = true then
      (el p.1 b.2).bind fun y => if acc.length < sizeLine then compL ok tg ts el ws r y.2 (acc ++ [y.1]) else none
      else compL ok tg ts el ws r b.2 acc
    else none
@[simp] def wipeW (r : Ev) : List Nat → Ev
  | [] => r
  | v :: vs => (wipeW r vs).set v none
def mLcA (own : List Nat) (it : IM) (tg : TgM) (ts : TM) (el : EM) (r : Ev) (S : Sto) : Option (List W × Sto) := (it r S).bind fun p => compL p.1.ok tg ts el p.1.items (wipeW r own) p.2 []
def mLc (own : List Nat) (it : IM) (tg : TgM) (ts : TM) (el : EM) (r : Ev) (S : Sto) : Option (W × Sto) := (mLcA own it tg ts el r S).bind fun q => some (.lst q.1, q.2)
def mLcM (own : List Nat) (it : IM) (tg : TgM) (ts : TM) (el : EM) (r : Ev) (S : Sto) : Option (W × Sto) := (mLcA own it tg ts el r S).bind fun q => some (.ref q.2.length, q.2 ++ [.lst q.1])
theorem EvR.wipe {K : PySem.W.Frag} {mg : Str → Option Value} {B : Addr → Prop} {m : List Addr} {H : Hp} {r : Ev} {s : St} (E : EvR K mg B m H r s) : ∀ vs : List Nat, EvR K mg B m H (wipeW r vs) (L2.wipe s vs)
  | [] => E
  | v :: vs => by
    unfold wipeW L2.wipe
    exact (EvR.wipe E vs).unset v
theorem wipe_get {s : St} {i : Nat} : ∀ {vs : List Nat}, (L2.wipe s vs)[i]? = if i ∈ vs then (s[i]?).map fun _ => none else s[i]?
  | [] => by simp [L2.wipe]
  | v :: vs => by
    unfold L2.wipe
    by_cases e : v = i
    · subst e
      rw [List.getElem?_set]
      simp only [if_true, L2.wipe_length, List.mem_cons, true_or]
      by_cases hv : v < s.length
      · simp [hv]
      · simp [hv]
    · rw [List.getElem?_set_ne e, wipe_get]
      have : (i ∈ v :: vs) ↔ i ∈ vs := by
        simp only [List.mem_cons]
        exact ⟨fun z => z.elim (fun z => absurd z.symm e) id, .inr⟩
      simp only [this]
theorem wipe_kept {s s' : St} {ix vs : List Nat} (h : Kept ix (L2.wipe s vs) s') (sub : ∀ i ∈ ix, i ∈ vs) : L2.wipe s' vs = L2.wipe s vs := by
  refine List.ext_getElem? fun i => ?_
  rw [wipe_get, wipe_get]
  split
  · rename_i hi
    have hl := h.1
    rw [L2.wipe_length] at hl
    by_cases q : i < s.length
    · rw [List.getElem?_eq_getElem q, List.getElem?_eq_getElem (by rw [hl]; exact q)]
      rfl
    · rw [List.getElem?_eq_none (by omega), List.getElem?_eq_none (by omega)]
  · rename_i hi
    rw [h.2 i fun z => hi (sub i z), wipe_get, if_neg hi]
section
variable {X : Cx}
/-- the comprehension's reading, from its function: D the new list, protected while it grows -/
theorem lc_ok {wi : TI} {ix own : List Nat} {it : IM} {tg : TgM} {ts : TM} {el : EM} (sub : ∀ i ∈ ix, i ∈ own)
    (hi : ∀ B m r s S H (Q : It → Hp → Prop) src S', Rel X.K X.mg B m S H → EvR X.K X.mg B m H r s → it r S = some (src, S') → (∀ B' m' H' J, Stp B m H B' m' H' → Rel X.K X.mg B' m' S' H' → Good X src J B' m' H' → Q J H') → wi s H Q)
    {B : Addr → Prop} {m : List Addr} {r : Ev} {s : St} {S S' : Sto} {H : Hp} {Q : VK} {res : List W} (R : Rel X.K X.mg B m S H) (E : EvR X.K X.mg B m H r s) (h : mLcA own it tg ts el r S = some (res, S'))
    (k : ∀ B' m' H' D vs, Stp B m H B' m' H' → Rel X.K X.mg B' m' S' H' → B' D → D ∉ m' → H D = none → H' D = some (.lst vs) → Rps X.K X.mg B' m' H' res vs → Q (.ref D) H') :
    tLc wi (tG X.K X.mg ix tg) (tT X.K X.mg ts) (tE X.K X.mg el) own s H Q := by
  simp only [mLcA, Option.bind_eq_some_iff] at h
  obtain ⟨⟨src, S1⟩, h1, h2⟩ := h
  simp only at h2
  refine hi B m r s S H _ src S1 R E h1 fun B1 m1 H1 J s1 R1 gd D hD => ?_
  have back : H D = none := by
    cases q : H D with
    | none => rfl
    | some o =>
      obtain ⟨o', q'⟩ := s1.there D o q
      rw [hD] at q'; cases q'
  refine ⟨fun i n H2 => ∃ B2 m2 S2 acc va, Stp B1 m1 H1 B2 m2 H2 ∧ Rel X.K X.mg B2 m2 S2 H2 ∧ B2 D ∧ D ∉ m2 ∧ H2 D = some (.lst va) ∧ Rps X.K X.mg B2 m2 H2 acc va ∧ i ≤ src.items.length ∧ n = src.items.length - i ∧ compL src.ok tg ts el (src.items.drop i) (wipeW r own) S2 acc = some (res, S'),
    ⟨_, _, m1, S1, [], [], Stp.prot hD, R1.prot hD, .inr rfl, fun z => R1.none_of hD (R1.inB D z), upd_same, .nil, Nat.zero_le _, rfl, by simpa using h2⟩, ?_⟩
  rintro i n H2 ⟨B2, m2, S2, acc, va, st, R2, bD, nD, eD, pa, hi', rfl, hc⟩
  have E2 : EvR X.K X.mg B2 m2 H2 (wipeW r own) (L2.wipe s own) := ((E.wipe own).mono s1 R.inB).mono st R1.inB
  by_cases hlt : i < src.items.length
  · have hd : src.items.drop i = src.items[i] :: src.items.drop (i + 1) := List.drop_eq_getElem_cons hlt
    rw [hd] at hc
    unfold compL at hc
    split at hc
    · rename_i hok
      simp only [Option.bind_eq_some_iff] at hc
      obtain ⟨⟨r3, S3⟩, h3, ⟨b, S4⟩, h4, h5⟩ := hc
      simp only at h4 h5
      obtain ⟨go, yl⟩ := (gd B2 m2 S2 H2 st R2 hok i).1 src.items[i] (List.getElem?_eq_getElem hlt)
      refine .inr ⟨go, fun H' => ∃ B2 m2 S2 acc va, Stp B1 m1 H1 B2 m2 H' ∧ Rel X.K X.mg B2 m2 S2 H' ∧ B2 D ∧ D ∉ m2 ∧ H' D = some (.lst va) ∧ Rps X.K X.mg B2 m2 H' acc va ∧ compL src.ok tg ts el (src.items.drop (i + 1)) (wipeW r own) S2 acc = some (res, S'),
        fun H' ⟨B5, m5, S5, a5, v5, a1, a2, a3, a4, a6, a7, a8⟩ => ⟨src.items.length - (i + 1), by omega, B5, m5, S5, a5, v5, a1, a2, a3, a4, a6, a7, hlt, rfl, a8⟩, fun x H' y => ?_⟩
      obtain ⟨B3, m3, st3, R3, p3⟩ := yl x H' y
      obtain ⟨bD3, nD3, eD3⟩ := st3.carry bD nD eD
      have pa3 := pa.mono st3 R2.inB
      refine ⟨B3, m3, wipeW r own, S2, _, r3, S3, R3, E2.mono st3 R2.inB, p3, h3, fun B4 m4 H4 σ4 st4 R4 E4 k4 => ⟨wipe_kept k4 sub, ?_⟩⟩
      obtain ⟨bD4, nD4, eD4⟩ := st4.carry bD3 nD3 eD3
      have pa4 := pa3.mono st4 R3.inB
      refine ⟨B4, m4, r3, S3, b, S4, R4, E4, h4, fun B5 m5 H5 st5 R5 => ?_⟩
      obtain ⟨bD5, nD5, eD5⟩ := st5.carry bD4 nD4 eD4
      have pa5 := pa4.mono st5 R4.inB
      have stA := ((st.trans st3).trans st4).trans st5
      split at h5
      · rename_i hb
        rw [if_pos hb]
        simp only [Option.bind_eq_some_iff] at h5
        obtain ⟨⟨y, S6⟩, h6, h7⟩ := h5
        simp only at h7
        split at h7
        · rename_i hz
          refine ⟨B5, m5, r3, S4, y, S6, R5, E4.mono st5 R4.inB, h6, fun B6 m6 H6 v6 st6 R6 p6 => ?_⟩
          obtain ⟨bD6, nD6, eD6⟩ := st6.carry bD5 nD5 eD5
          have pa6 := pa5.mono st6 R5.inB
          refine ⟨va, eD6, by rw [← pa6.length]; exact hz, B6, m6, S6, acc ++ [y], va ++ [v6], (stA.trans st6).off hD, R6.off bD6 nD6, bD6, nD6, upd_same, (pa6.snoc p6).off bD6, h7⟩
        · cases h7
      · rename_i hb
        rw [if_neg hb]
        exact ⟨B5, m5, S4, acc, va, stA, R5, bD5, nD5, eD5, pa5, h5⟩
    · cases hc
  · have e : i = src.items.length := by omega
    subst e
    rw [List.drop_length] at hc
    unfold compL at hc
    split at hc
    · rename_i hok
      simp only [Option.some.injEq, Prod.mk.injEq] at hc
      obtain ⟨rfl, rfl⟩ := hc
      exact .inl ⟨(gd B2 m2 S2 H2 st R2 hok _).2 (Nat.le_refl _), k B2 m2 H2 D va (s1.trans st) R2 bD nD back eD pa⟩
    · cases hc
theorem lc_frz {B B' : Addr → Prop} {m m' : List Addr} {H H' : Hp} {S S' : Sto} {D : Addr} {vs : List V} {res : List W} {Q : VK} (R : Rel X.K X.mg B m S H) (st : Stp B m H B' m' H') (R' : Rel X.K X.mg B' m' S' H') (n : D ∉ m') (hn : H D = none) (e : H' D = some (.lst vs)) (p : Rps X.K X.mg B' m' H' res vs)
    (k : ∀ B' m' H' v, Stp B m H B' m' H' → Rel X.K X.mg B' m' S' H' → Rp X.K X.mg B' m' H' (.lst res) v → Q v H') : Q (.ref D) H' := by
  have nB : ¬ B D := R.none_of hn
  refine k (fun a => B' a ∧ a ≠ D) m' H' _ ⟨st.pre, fun a z => ⟨st.grow a z, fun q => nB (q ▸ z)⟩, fun a z n => st.new a z.1 n, st.keep, st.there⟩
    ⟨R'.nodup, R'.len, fun a z => ⟨R'.inB a z, fun q => n (q ▸ z)⟩, fun a z => R'.trk a z.1, fun k a u e1 e2 => (R'.obj k a u e1 e2).less fun _ z => z.1⟩ (.lst (fun z => z.2 rfl) e (p.less fun _ z => z.1))
theorem lc_mut {B B' : Addr → Prop} {m m' : List Addr} {H H' : Hp} {S S' : Sto} {D : Addr} {vs : List V} {res : List W} {Q : VK} (R : Rel X.K X.mg B m S H) (st : Stp B m H B' m' H') (R' : Rel X.K X.mg B' m' S' H') (bD : B' D) (n : D ∉ m') (hn : H D = none) (e : H' D = some (.lst vs)) (p : Rps X.K X.mg B' m' H' res vs)
    (k : ∀ B' m' H' v, Stp B m H B' m' H' → Rel X.K X.mg B' m' (S' ++ [.lst res]) H' → Rp X.K X.mg B' m' H' (.ref S'.length) v → Q v H') : Q (.ref D) H' := by
  obtain ⟨nw, ep, fp⟩ := st.pre
  -- the numbering grows by D
  have st2 : Stp B' m' H' B' (m' ++ [D]) H' → True := fun _ => trivial
  have mono : ∀ {ws : List W} {us : List V}, Rps X.K X.mg B' m' H' ws us → Rps X.K X.mg B' (m' ++ [D]) H' ws us := by
    intro ws us q
    have aux : ∀ (w : W) (v : V), Rp X.K X.mg B' m' H' w v → Rp X.K X.mg B' (m' ++ [D]) H' w v := by
      intro w v q
      exact Rp.rec (motive_1 := fun w v _ => Rp X.K X.mg B' (m' ++ [D]) H' w v) (motive_2 := fun ws vs _ => Rps X.K X.mg B' (m' ++ [D]) H' ws vs)
        .non (fun b => .bl b) (fun b => .int b) (fun b => .str b) (fun f _ ih => .tup f ih) (fun n f _ ih => .lst n f ih) (fun f _ ih => .lsr f ih) (fun n g h l _ ih => .ins n g h l ih) (fun g => .glo g) (fun g => .ty g)
        (fun h => .ref (by rw [List.getElem?_append_left (List.getElem?_eq_some_iff.mp h).1]; exact h)) .nil (fun _ _ i1 i2 => .cons i1 i2) q
    induction q using Rps.rec (motive_1 := fun w v _ => True) with
    | nil => exact .nil
    | cons r t _ ih => exact .cons (aux _ _ r) ih
    | _ => trivial
  have mono1 : ∀ {w : W} {v : V}, Rp X.K X.mg B' m' H' w v → Rp X.K X.mg B' (m' ++ [D]) H' w v := fun q => by
    cases mono (.cons q .nil) with
    | cons r _ => exact r
  have orm : ∀ {a : Addr} {o : Ob}, OR X.K X.mg B' m' H' a o → OR X.K X.mg B' (m' ++ [D]) H' a o := by
    intro a o h
    cases o with
    | lst ws => obtain ⟨vs, h1, h2⟩ := h; exact ⟨vs, h1, mono h2⟩
    | dK kvs => obtain ⟨vs, h1, h2⟩ := h; exact ⟨vs, h1, Paired.mapP h2 fun _ _ q => ⟨q.1, mono1 q.2⟩⟩
    | dT kvs => obtain ⟨vs, h1, h2⟩ := h; exact ⟨vs, h1, Paired.mapP h2 fun _ _ q => ⟨q.1, mono1 q.2⟩⟩
    | ins c fs => obtain ⟨C, dx, vs, h0, h1, h2⟩ := h; exact ⟨C, dx, vs, h0, h1, Paired.mapP h2 fun _ _ q => ⟨q.1, mono1 q.2⟩⟩
  refine k B' (m' ++ [D]) H' _ ⟨⟨nw ++ [D], by rw [ep, List.append_assoc], fun a z => ?_⟩, st.grow, st.new, st.keep, st.there⟩ ⟨?_, by simp [R'.len], fun a z => ?_, R'.trk, fun k a u e1 e2 => ?_⟩ (.ref ?_)
  · rcases List.mem_append.mp z with z | z
    · exact fp a z
    · rw [List.mem_singleton.mp z]; exact hn
  · rw [List.nodup_append]
    refine ⟨R'.nodup, by simp, fun a ha b hb e => ?_⟩
    rw [List.mem_singleton.mp hb] at e
    subst e
    exact n ha
  · rcases List.mem_append.mp z with z | z
    · exact R'.inB a z
    · rw [List.mem_singleton.mp z]; exact bD
  · by_cases hk : k < m'.length
    · rw [List.getElem?_append_left hk] at e1
      rw [List.getElem?_append_left (by rw [← R'.len]; exact hk)] at e2
      exact orm (R'.obj k a u e1 e2)
    · have hk2 : k = m'.length := by
        have := (List.getElem?_eq_some_iff.mp e1).1
        simp at this
        omega
      subst hk2
      rw [List.getElem?_append_right (Nat.le_refl _)] at e1
      rw [R'.len, List.getElem?_append_right (Nat.le_refl _)] at e2
      simp at e1 e2
      subst e1 e2
      exact ⟨vs, e, mono p⟩
  · rw [← R'.len, List.getElem?_append_right (Nat.le_refl _)]; simp
theorem w_lc {ix : List Nat} {it : IM} {tg : TgM} {ts : TM} {el : EM} {elt target iter : Expr} {ifs : List Expr} {scope : Scope} {own : List (Str × Nat)} {pos : Pos} (hc : X.calm = true) (hN : X.N.Nodup) (hi : PIw X target iter it) (ok : BlkOk X.N X.env.scope scope own)
    (hg : ∀ (s : Shared) (H : Hp) (C : Addr) (cl : List (Str × Addr)) (fp : List Addr), PGw (X.blk s H scope (compEnvC scope cl C X.env) fp) ix target tg) (ht : ∀ (s : Shared) (H : Hp) (C : Addr) (cl : List (Str × Addr)) (fp : List Addr), PTsw (X.blk s H scope (compEnvC scope cl C X.env) fp) ifs ts)
    (he : ∀ (s : Shared) (H : Hp) (C : Addr) (cl : List (Str × Addr)) (fp : List Addr), PEw (X.blk s H scope (compEnvC scope cl C X.env) fp) elt el) (sub : ∀ i ∈ ix, i ∈ own.map (·.2) := by decide) (hs : ∀ x, foldedSetIterable iter X.env x = pure x := by intro _; rfl) :
    PEw X (.ListComp elt [⟨target, iter, ifs, 0⟩] scope pos) (mLc (own.map (·.2)) it tg ts el) := by
  obtain ⟨wi, hi, ri⟩ := hi
  refine ⟨_, pe_lc (g := tG X.K X.mg ix tg) (tt := tT X.K X.mg ts) (te := tE X.K X.mg el) hc hN hi ok (fun s H C cl fp => (hg s H C cl fp).can) (fun s H C cl fp => (ht s H C cl fp).can) (fun s H C cl fp => (he s H C cl fp).can) hs, ?_⟩
  intro B m r s S H Q w S' R E h k
  simp only [mLc, Option.bind_eq_some_iff] at h
  obtain ⟨⟨res, S1⟩, h1, h2⟩ := h
  cases h2
  exact lc_ok sub ri R E h1 fun B' m' H' D vs st R' bD nD hn e p => lc_frz R st R' nD hn e p k
theorem w_lcM {ix : List Nat} {it : IM} {tg : TgM} {ts : TM} {el : EM} {elt target iter : Expr} {ifs : List Expr} {scope : Scope} {own : List (Str × Nat)} {pos : Pos} (hc : X.calm = true) (hN : X.N.Nodup) (hi : PIw X target iter it) (ok : BlkOk X.N X.env.scope scope own)
    (hg : ∀ (s : Shared) (H : Hp) (C : Addr) (cl : List (Str × Addr)) (fp : List Addr), PGw (X.blk s H scope (compEnvC scope cl C X.env) fp) ix target tg) (ht : ∀ (s : Shared) (H : Hp) (C : Addr) (cl : List (Str × Addr)) (fp : List Addr), PTsw (X.blk s H scope (compEnvC scope cl C X.env) fp) ifs ts)
    (he : ∀ (s : Shared) (H : Hp) (C : Addr) (cl : List (Str × Addr)) (fp : List Addr), PEw (X.blk s H scope (compEnvC scope cl C X.env) fp) elt el) (sub : ∀ i ∈ ix, i ∈ own.map (·.2) := by decide) (hs : ∀ x, foldedSetIterable iter X.env x = pure x := by intro _; rfl) :
    PEw X (.ListComp elt [⟨target, iter, ifs, 0⟩] scope pos) (mLcM (own.map (·.2)) it tg ts el) := by
  obtain ⟨wi, hi, ri⟩ := hi
  refine ⟨_, pe_lc (g := tG X.K X.mg ix tg) (tt := tT X.K X.mg ts) (te := tE X.K X.mg el) hc hN hi ok (fun s H C cl fp => (hg s H C cl fp).can) (fun s H C cl fp => (ht s H C cl fp).can) (fun s H C cl fp => (he s H C cl fp).can) hs, ?_⟩
  intro B m r s S H Q w S' R E h k
  simp only [mLcM, Option.bind_eq_some_iff] at h
  obtain ⟨⟨res, S1⟩, h1, h2⟩ := h
  cases h2
  exact lc_ok sub ri R E h1 fun B' m' H' D vs st R' bD nD hn e p => lc_mut R st R' bD nD hn e p k
/-- name = [..] -/
theorem ws_setLc {i : Nat} {y : Str} {py : Pos} {ix : List Nat} {it : IM} {tg : TgM} {ts : TM} {el : EM} {elt target iter : Expr} {ifs : List Expr} {scope : Scope} {own : List (Str × Nat)} {pos spos : Pos} (hc : X.calm = true) (hN : X.N.Nodup) (hsw : swapsWith (.ListComp elt [⟨target, iter, ifs, 0⟩] scope pos) (some (.Name y py)) spos.line X.env = pure true)
    (hi : PIw X target iter it) (ok : BlkOk X.N X.env.scope scope own)
    (hg : ∀ (s : Shared) (H : Hp) (C : Addr) (cl : List (Str × Addr)) (fp : List Addr), PGw (X.blk s H scope (compEnvC scope cl C X.env) fp) ix target tg) (ht : ∀ (s : Shared) (H : Hp) (C : Addr) (cl : List (Str × Addr)) (fp : List Addr), PTsw (X.blk s H scope (compEnvC scope cl C X.env) fp) ifs ts)
    (he : ∀ (s : Shared) (H : Hp) (C : Addr) (cl : List (Str × Addr)) (fp : List Addr), PEw (X.blk s H scope (compEnvC scope cl C X.env) fp) elt el) (hy : X.N[i]? = some y := by rfl) (hyl : X.env.scope.names.lookup y = some .local := by rfl) (sub : ∀ i ∈ ix, i ∈ own.map (·.2) := by decide) (hs : ∀ x, foldedSetIterable iter X.env x = pure x := by intro _; rfl) :
    PSw X (.Assign [.Name y py] (.ListComp elt [⟨target, iter, ifs, 0⟩] scope pos) spos) (mAsg (mLc (own.map (·.2)) it tg ts el) (tgN i)) := by
  obtain ⟨wi, hi, ri⟩ := hi
  refine ⟨_, ps_setLc (g := tG X.K X.mg ix tg) (tt := tT X.K X.mg ts) (te := tE X.K X.mg el) hc hN hy hyl hsw hi ok (fun s H C cl fp => (hg s H C cl fp).can) (fun s H C cl fp => (ht s H C cl fp).can) (fun s H C cl fp => (he s H C cl fp).can) hs, ?_⟩
  intro B m r s S H D f r' S' R E h k
  simp only [mAsg, mLc, tgN, Option.bind_eq_some_iff] at h
  obtain ⟨⟨x, S2⟩, ⟨⟨res, S1⟩, h1, h2⟩, ⟨r3, S3⟩, h3, h4⟩ := h
  cases h2
  cases h3
  cases h4
  refine lc_ok sub ri R E h1 fun B' m' H' L vs st R' bD nD hn e p => ?_
  exact lc_frz (Q := fun v H' => gName i v s H' D.nx) R st R' nD hn e p fun B2 m2 H2 v st2 R2 p2 => k B2 m2 H2 _ st2 R2 ((E.mono st2 R.inB).set p2 i)
theorem ws_setLcM {i : Nat} {y : Str} {py : Pos} {ix : List Nat} {it : IM} {tg : TgM} {ts : TM} {el : EM} {elt target iter : Expr} {ifs : List Expr} {scope : Scope} {own : List (Str × Nat)} {pos spos : Pos} (hc : X.calm = true) (hN : X.N.Nodup) (hsw : swapsWith (.ListComp elt [⟨target, iter, ifs, 0⟩] scope pos) (some (.Name y py)) spos.line X.env = pure true)
    (hi : PIw X target iter it) (ok : BlkOk X.N X.env.scope scope own)
    (hg : ∀ (s : Shared) (H : Hp) (C : Addr) (cl : List (Str × Addr)) (fp : List Addr), PGw (X.blk s H scope (compEnvC scope cl C X.env) fp) ix target tg) (ht : ∀ (s : Shared) (H : Hp) (C : Addr) (cl : List (Str × Addr)) (fp : List Addr), PTsw (X.blk s H scope (compEnvC scope cl C X.env) fp) ifs ts)
    (he : ∀ (s : Shared) (H : Hp) (C : Addr) (cl : List (Str × Addr)) (fp : List Addr), PEw (X.blk s H scope (compEnvC scope cl C X.env) fp) elt el) (hy : X.N[i]? = some y := by rfl) (hyl : X.env.scope.names.lookup y = some .local := by rfl) (sub : ∀ i ∈ ix, i ∈ own.map (·.2) := by decide) (hs : ∀ x, foldedSetIterable iter X.env x = pure x := by intro _; rfl) :
    PSw X (.Assign [.Name y py] (.ListComp elt [⟨target, iter, ifs, 0⟩] scope pos) spos) (mAsg (mLcM (own.map (·.2)) it tg ts el) (tgN i)) := by
  obtain ⟨wi, hi, ri⟩ := hi
  refine ⟨_, ps_setLc (g := tG X.K X.mg ix tg) (tt := tT X.K X.mg ts) (te := tE X.K X.mg el) hc hN hy hyl hsw hi ok (fun s H C cl fp => (hg s H C cl fp).can) (fun s H C cl fp => (ht s H C cl fp).can) (fun s H C cl fp => (he s H C cl fp).can) hs, ?_⟩
  intro B m r s S H D f r' S' R E h k
  simp only [mAsg, mLcM, tgN, Option.bind_eq_some_iff] at h
  obtain ⟨⟨x, S2⟩, ⟨⟨res, S1⟩, h1, h2⟩, ⟨r3, S3⟩, h3, h4⟩ := h
  cases h2
  cases h3
  cases h4
  refine lc_ok sub ri R E h1 fun B' m' H' L vs st R' bD nD hn e p => ?_
  exact lc_mut (Q := fun v H' => gName i v s H' D.nx) R st R' bD nD hn e p fun B2 m2 H2 v st2 R2 p2 => k B2 m2 H2 _ st2 R2 ((E.mono st2 R.inB).set p2 i)
end
end Zw
set_option maxRecDepth 100000
namespace Zw
open PySem L2

@[simp] def Ob.flat : Ob → Bool
  | .lst ws => flats ws
  | .dK kvs => kvs.all fun p => p.2.flat
  | .dT kvs => kvs.all fun p => p.2.flat
  | .ins _ fs => fs.all fun p => p.2.flat
/-! ### a def called on its own small store: what its arguments refer to -/
@[simp] def splitF : List Bool → List W → Nat → Option (List Nat × List W)
  | [], [], _ => some ([], [])
  | false :: bs, w :: ws, i => if w.flat = true then (splitF bs ws i).map fun p => (p.1, w :: p.2) else none
  | true :: bs, .ref k :: ws, i => (splitF bs ws (i + 1)).map fun p => (k :: p.1, .ref i :: p.2)
  | _, _, _ => none
@[simp] def getAll (S : Sto) : List Nat → Option (List Ob)
  | [] => some []
  | k :: ks => match S[k]? with
    | some o => (getAll S ks).map fun os => o :: os
    | none => none
@[simp] def putAll : List Nat → List Ob → Sto → Sto
  | k :: ks, o :: os, S => putAll ks os (S.set k o)
  | _, _, S => S
/-- what a call hands back: fz: a new list stays as it is -/
@[simp] def handF (fz : Bool) (rs : List Nat) (v : W) (S' S1 : Sto) : Option (W × Sto) := match v with
  | .ref j => match rs[j]? with
    | some k => some (.ref k, S1)
    | none => match S'[j]? with
      | some (.lst ws) => if flats ws = true then (if fz = true then some (.lst ws, S1) else some (.ref S1.length, S1 ++ [.lst ws])) else none
      | _ => none
  | v => if v.flat = true then some (v, S1) else none
def runF (fz : Bool) (mask : List Bool) (sem : CM) (ws : List W) (S : Sto) : Option (W × Sto) :=
  (splitF mask ws 0).bind fun p => (getAll S p.1).bind fun os => if (decide p.1.Nodup && os.all Ob.flat) = true then
    (sem p.2 os).bind fun z => if (decide (p.1.length ≤ z.2.length) && (z.2.take p.1.length).all Ob.flat) = true then handF fz p.1 z.1 z.2 (putAll p.1 z.2 S) else none
  else none
def liftSp (K : PySem.W.Frag) (mg : Str → Option Value) (n : Nat) (sem : CM) : Sp := fun vs H Q _ => vs.length = n ∧ ∃ B m S ws w S', Rel K mg B m S H ∧ Rps K mg B m H ws vs ∧ sem ws S = some (w, S') ∧
  ∀ B' m' H' v, Stp B m H B' m' H' → Rel K mg B' m' S' H' → Rp K mg B' m' H' w v → Q v H'

section
variable {K : PySem.W.Frag} {mg : Str → Option Value} {B : Addr → Prop} {m : List Addr} {S : Sto} {H : Hp}
theorem split_ok : ∀ {mask : List Bool} {ws : List W} {vs : List V} {i : Nat} {rs : List Nat} {ws' : List W}, Rps K mg B m H ws vs → splitF mask ws i = some (rs, ws') →
    ∃ m0, Paired (fun k a => m[k]? = some a) rs m0 ∧ ∀ pre : List Addr, pre.length = i → Rps K mg B (pre ++ m0) H ws' vs
  | [], [], _, i, rs, ws', .nil, h => by
    simp only [splitF, Option.some.injEq, Prod.mk.injEq] at h
    obtain ⟨rfl, rfl⟩ := h
    exact ⟨[], .nil, fun _ _ => .nil⟩
  | [], _ :: _, _, _, _, _, _, h => by simp [splitF] at h
  | false :: _, [], _, _, _, _, _, h => by simp [splitF] at h
  | true :: _, [], _, _, _, _, _, h => by simp [splitF] at h
  | false :: bs, w :: ws, _, i, rs, ws', .cons p ps, h => by
    simp only [splitF] at h
    split at h
    · rename_i hf
      simp only [Option.map_eq_some_iff] at h
      obtain ⟨⟨r1, w1⟩, h1, h2⟩ := h
      cases h2
      obtain ⟨m0, h3, h4⟩ := split_ok ps h1
      exact ⟨m0, h3, fun pre hp => .cons (p.flat hf) (h4 pre hp)⟩
    · cases h
  | true :: bs, w :: ws, _, i, rs, ws', .cons p ps, h => by
    cases p <;> simp only [splitF, reduceCtorEq, Option.map_eq_some_iff] at h
    rename_i a k hk
    obtain ⟨⟨r1, w1⟩, h1, h2⟩ := h
    cases h2
    obtain ⟨m0, h3, h4⟩ := split_ok ps h1
    refine ⟨a :: m0, .cons hk h3, fun pre hp => .cons (.ref ?_) ?_⟩
    · rw [← hp, List.getElem?_append_right (Nat.le_refl _)]; simp
    · have := h4 (pre ++ [a]) (by simp [hp])
      rw [List.append_assoc] at this
      exact this
theorem getAll_at : ∀ {rs : List Nat} {os : List Ob}, getAll S rs = some os → os.length = rs.length ∧ ∀ (j : Nat) k, rs[j]? = some k → ∃ o, os[j]? = some o ∧ S[k]? = some o
  | [], os, h => by
    simp only [getAll, Option.some.injEq] at h
    subst h
    exact ⟨rfl, fun j k e => by simp at e⟩
  | k :: ks, os, h => by
    simp only [getAll] at h
    split at h
    · rename_i o ho
      simp only [Option.map_eq_some_iff] at h
      obtain ⟨os', h1, rfl⟩ := h
      obtain ⟨h2, h3⟩ := getAll_at h1
      refine ⟨by simp [h2], fun j k' e => ?_⟩
      cases j with
      | zero => simp at e; subst e; exact ⟨o, rfl, ho⟩
      | succ j => exact h3 j k' (by simpa using e)
    · cases h
theorem putAll_length : ∀ {rs : List Nat} {os : List Ob} {S : Sto}, (putAll rs os S).length = S.length
  | [], _, _ => by simp [putAll]
  | _ :: _, [], _ => by simp [putAll]
  | k :: ks, o :: os, S => by simp [putAll, putAll_length]
theorem putAll_out : ∀ {rs : List Nat} {os : List Ob} {S : Sto} {k : Nat}, k ∉ rs → (putAll rs os S)[k]? = S[k]?
  | [], _, _, _, _ => by simp [putAll]
  | _ :: _, [], _, _, _ => by simp [putAll]
  | k' :: ks, o :: os, S, k, h => by
    simp only [List.mem_cons, not_or] at h
    rw [putAll, putAll_out h.2, List.getElem?_set_ne (Ne.symm h.1)]
theorem putAll_in : ∀ {rs : List Nat} {os : List Ob} {S : Sto} {j k : Nat}, rs.Nodup → rs.length ≤ os.length → rs[j]? = some k → k < S.length → (putAll rs os S)[k]? = os[j]?
  | [], _, _, j, k, _, _, h, _ => by simp at h
  | _ :: _, [], _, j, k, _, l, h, _ => by simp at l
  | k' :: ks, o :: os, S, j, k, nd, l, h, hk => by
    rw [List.nodup_cons] at nd
    cases j with
    | zero =>
      simp at h
      subst h
      rw [putAll, putAll_out nd.1, List.getElem?_set_self hk]
      rfl
    | succ j =>
      rw [putAll, putAll_in (j := j) nd.2 (by simpa using l) (by simpa using h) (by simpa using hk)]
      rfl
theorem Paired.getL {α β : Type} {F : α → β → Prop} : ∀ {l1 : List α} {l2 : List β} {i : Nat} {a : α}, Paired F l1 l2 → l1[i]? = some a → ∃ b, l2[i]? = some b ∧ F a b
  | _, _, _, _, .nil, e => by simp at e
  | _, _, 0, _, .cons r _, e => by simp at e; subst e; exact ⟨_, rfl, r⟩
  | _, _, i + 1, a, .cons _ t, e => by
    obtain ⟨b, h1, h2⟩ := Paired.getL (i := i) (a := a) t (by simpa using e)
    exact ⟨b, by simpa using h1, h2⟩
theorem Paired.getR {α β : Type} {F : α → β → Prop} : ∀ {l1 : List α} {l2 : List β} {i : Nat} {b : β}, Paired F l1 l2 → l2[i]? = some b → ∃ a, l1[i]? = some a ∧ F a b
  | _, _, _, _, .nil, e => by simp at e
  | _, _, 0, _, .cons r _, e => by simp at e; subst e; exact ⟨_, rfl, r⟩
  | _, _, i + 1, b, .cons _ t, e => by
    obtain ⟨a, h1, h2⟩ := Paired.getR (i := i) (b := b) t (by simpa using e)
    exact ⟨a, by simpa using h1, h2⟩
theorem OR.renum {m' : List Addr} {a : Addr} {o : Ob} (hf : o.flat = true) (h : OR K mg B m H a o) : OR K mg B m' H a o := by
  cases o with
  | lst ws => obtain ⟨vs, h1, h2⟩ := h; exact ⟨vs, h1, h2.flat hf⟩
  | dK kvs =>
    obtain ⟨vs, h1, h2⟩ := h
    refine ⟨vs, h1, ?_⟩
    clear h1
    induction h2 with
    | nil => exact .nil
    | cons r _ ih =>
      simp only [Ob.flat, List.all_cons, Bool.and_eq_true] at hf
      exact .cons ⟨r.1, r.2.flat hf.1⟩ (ih hf.2)
  | dT kvs =>
    obtain ⟨vs, h1, h2⟩ := h
    refine ⟨vs, h1, ?_⟩
    clear h1
    induction h2 with
    | nil => exact .nil
    | cons r _ ih =>
      simp only [Ob.flat, List.all_cons, Bool.and_eq_true] at hf
      exact .cons ⟨r.1, r.2.flat hf.1⟩ (ih hf.2)
  | ins c fs =>
    obtain ⟨C, dx, vs, h0, h1, h2⟩ := h
    refine ⟨C, dx, vs, h0, h1, ?_⟩
    clear h1
    induction h2 with
    | nil => exact .nil
    | cons r _ ih =>
      simp only [Ob.flat, List.all_cons, Bool.and_eq_true] at hf
      exact .cons ⟨r.1, r.2.flat hf.1⟩ (ih hf.2)
theorem callF_ok {fz : Bool} {mask : List Bool} {sem : CM} {ws : List W} {vs : List V} {w : W} {S' : Sto} {Q : VK} {E : XK} (R : Rel K mg B m S H) (ps : Rps K mg B m H ws vs) (h : runF fz mask sem ws S = some (w, S'))
    (k : ∀ B' m' H' v, Stp B m H B' m' H' → Rel K mg B' m' S' H' → Rp K mg B' m' H' w v → Q v H') : liftSp K mg vs.length sem vs H Q E := by
  simp only [runF, Option.bind_eq_some_iff] at h
  obtain ⟨⟨rs, ws'⟩, h1, os, h2, h3⟩ := h
  simp only at h2 h3
  split at h3
  · rename_i hnd
    rw [Bool.and_eq_true] at hnd
    have nd : rs.Nodup := of_decide_eq_true hnd.1
    have ofl : os.all Ob.flat = true := hnd.2
    simp only [Option.bind_eq_some_iff] at h3
    obtain ⟨⟨v, S2⟩, h4, h5⟩ := h3
    simp only at h5
    split at h5
    · rename_i hl2
      rw [Bool.and_eq_true] at hl2
      have hl : rs.length ≤ S2.length := of_decide_eq_true hl2.1
      have tfl : (S2.take rs.length).all Ob.flat = true := hl2.2
      obtain ⟨m0, pr, hm0⟩ := split_ok ps h1
      have ps0 : Rps K mg B m0 H ws' vs := by simpa using hm0 [] rfl
      obtain ⟨ol, oat⟩ := getAll_at h2
      have ml : m0.length = rs.length := (Paired.length pr).symm
      have sub : ∀ a ∈ m0, a ∈ m := fun a ha => by
        obtain ⟨j, hj⟩ := List.mem_iff_getElem?.mp ha
        obtain ⟨kk, _, h⟩ := Paired.getR pr hj
        exact List.mem_of_getElem? h
      have nd0 : m0.Nodup := by
        refine List.pairwise_iff_getElem.mpr fun i j hi' hj hij e => ?_
        obtain ⟨k1, e1, g1⟩ := Paired.getR pr (List.getElem?_eq_getElem hi')
        obtain ⟨k2, e2, g2⟩ := Paired.getR pr (List.getElem?_eq_getElem hj)
        rw [e] at g1
        have a1 := List.getElem?_eq_some_iff.mp g1
        have a2 := List.getElem?_eq_some_iff.mp g2
        have ek : k1 = k2 := (List.getElem_inj R.nodup).mp (a1.2.trans a2.2.symm)
        subst ek
        have b1 := List.getElem?_eq_some_iff.mp e1
        have b2 := List.getElem?_eq_some_iff.mp e2
        have := (List.getElem_inj nd).mp (b1.2.trans b2.2.symm)
        omega
      have R0 : Rel K mg B m0 os H := ⟨nd0, by omega, fun a ha => R.inB a (sub a ha), R.trk, fun j a o e1 e2 => by
        obtain ⟨kk, e3, g⟩ := Paired.getR pr e1
        obtain ⟨o2, e4, e5⟩ := oat j kk e3
        have eo : o2 = o := Option.some.inj (e4.symm.trans e2)
        rw [eo] at e5
        exact (R.obj kk a o g e5).renum (List.all_eq_true.mp ofl o (List.mem_of_getElem? e2))⟩
      refine ⟨rfl, B, m0, os, ws', v, S2, R0, ps0, h4, fun B' m' H' vv st R' p' => ?_⟩
      obtain ⟨nw, en, fn⟩ := st.pre
      have lessB : ∀ a, B a → B' a := st.grow
      have st0 : Stp B m H B m H' := ⟨⟨[], by simp, by simp⟩, fun _ z => z, fun _ z n => absurd z n, fun a o q n => st.keep a o q fun z => n (sub a z), st.there⟩
      have at' : ∀ j, j < rs.length → m'[j]? = m0[j]? := fun j hj => by rw [en, List.getElem?_append_left (by omega)]
      -- the objects behind the call, under any protected set and numbering that grow
      have objs : ∀ (Bf : Addr → Prop) (mf : List Addr), (∀ a, Bf a → B' a) → Stp B m H Bf mf H' → ∀ (kk : Nat) (a : Addr) (o : Ob), m[kk]? = some a → (putAll rs S2 S)[kk]? = some o → OR K mg Bf mf H' a o := by
        intro Bf mf sf stf kk a o e1 e2
        by_cases hk : kk ∈ rs
        · obtain ⟨j, hj⟩ := List.mem_iff_getElem?.mp hk
          have hjl : j < rs.length := (List.getElem?_eq_some_iff.mp hj).1
          rw [putAll_in nd hl hj (by rw [← R.len]; exact (List.getElem?_eq_some_iff.mp e1).1)] at e2
          obtain ⟨a2, e3, g⟩ := Paired.getL pr hj
          rw [e1] at g; cases g
          have e4 : m'[j]? = some a := by rw [at' j hjl]; exact e3
          have of2 : o.flat = true := List.all_eq_true.mp tfl o (List.mem_iff_getElem?.mpr ⟨j, by rw [List.getElem?_take_of_lt hjl]; exact e2⟩)
          exact ((R'.obj j a o e4 e2).less sf).renum of2
        · rw [putAll_out hk] at e2
          have na : a ∉ m0 := fun z => by
            obtain ⟨j, hj⟩ := List.mem_iff_getElem?.mp z
            obtain ⟨k2, e3, g⟩ := Paired.getR pr hj
            have a1 := List.getElem?_eq_some_iff.mp e1
            have a2 := List.getElem?_eq_some_iff.mp g
            have ek : kk = k2 := (List.getElem_inj R.nodup).mp (a1.2.trans a2.2.symm)
            exact hk (ek ▸ List.mem_of_getElem? e3)
          exact (R.obj kk a o e1 e2).mono stf R.inB fun u q => st.keep a u q na
      have R1 : Rel K mg B m (putAll rs S2 S) H' := ⟨R.nodup, by rw [putAll_length]; exact R.len, R.inB, fun a z => by
        obtain ⟨u, q⟩ := R.trk a z
        exact st.there a u q, objs B m lessB st0⟩
      have flatCase : ∀ {w : W}, w.flat = true → Rp K mg B' m' H' w vv → (w, putAll rs S2 S) = (w, S') → Q vv H' → Q vv H' := fun _ _ _ q => q
      unfold handF at h5
      split at h5
      · rename_i j
        cases p' with
        | @ref a _ hja =>
        split at h5
        · rename_i kk hkk
          cases h5
          have hjl : j < rs.length := (List.getElem?_eq_some_iff.mp hkk).1
          obtain ⟨a2, e3, g⟩ := Paired.getL pr hkk
          rw [at' j hjl, e3] at hja
          cases hja
          exact k B m H' _ st0 R1 (.ref g)
        · rename_i hkk
          have hjl : rs.length ≤ j := List.getElem?_eq_none_iff.mp hkk
          have hnw : a ∈ nw := by
            rw [en, List.getElem?_append_right (by omega)] at hja
            exact List.mem_of_getElem? hja
          have hn : H a = none := fn a hnw
          split at h5
          · rename_i us hus
            split at h5
            · rename_i hfl
              obtain ⟨vs2, g1, g2⟩ := R'.obj j a _ hja hus
              split at h5
              · cases h5
                exact k B m H' _ st0 R1 (.lst (R.none_of hn) g1 ((g2.less lessB).flat hfl))
              · cases h5
                have bf : ∀ b, (B b ∨ b = a) → B' b := fun b z => z.elim (lessB b) fun z => z ▸ R'.inB a (List.mem_of_getElem? hja)
                have stf : Stp B m H (fun b => B b ∨ b = a) (m ++ [a]) H' := ⟨⟨[a], rfl, fun b z => by rw [List.mem_singleton.mp z]; exact hn⟩, fun b z => .inl z, fun b z n => z.elim (fun z => absurd z n) fun z => by rw [z]; exact hn, st0.keep, st0.there⟩
                have nam : a ∉ m := fun z => R.none_of hn (R.inB a z)
                refine k (fun b => B b ∨ b = a) (m ++ [a]) H' _ stf ⟨?_, by simp [putAll_length, R.len], fun b z => ?_, fun b z => R'.trk b (bf b z), fun kk b o e1 e2 => ?_⟩ (.ref ?_)
                · rw [List.nodup_append]
                  refine ⟨R.nodup, by simp, fun b hb c hc e => ?_⟩
                  rw [List.mem_singleton.mp hc] at e
                  subst e
                  exact nam hb
                · rcases List.mem_append.mp z with z | z
                  · exact .inl (R.inB b z)
                  · exact .inr (List.mem_singleton.mp z)
                · by_cases hk : kk < m.length
                  · rw [List.getElem?_append_left hk] at e1
                    rw [List.getElem?_append_left (by rw [putAll_length, ← R.len]; exact hk)] at e2
                    exact objs _ _ bf stf kk b o e1 e2
                  · have hk2 : kk = m.length := by
                      have := (List.getElem?_eq_some_iff.mp e1).1
                      simp at this
                      omega
                    subst hk2
                    rw [List.getElem?_append_right (Nat.le_refl _)] at e1
                    rw [R.len, List.getElem?_append_right (by rw [putAll_length]; exact Nat.le_refl _)] at e2
                    simp [putAll_length] at e1 e2
                    subst e1 e2
                    exact ⟨vs2, g1, (g2.less bf).flat hfl⟩
                · rw [putAll_length, ← R.len, List.getElem?_append_right (Nat.le_refl _)]; simp
            · cases h5
          · cases h5
      · split at h5
        · rename_i hfl
          cases h5
          exact k B m H' _ st0 R1 ((p'.less lessB).flat hfl)
        · cases h5
    · cases h5
  · cases h3
end

/-! ### a def's own function, from its body's -/
def mkSem (n tot : Nat) (body : SM) (ws : List W) (S : Sto) : Option (W × Sto) := if ws.length = n then (body (ws.map some ++ List.replicate (tot - n) none) S).bind fun p => match p.1 with
  | .rt w => some (w, p.2.2)
  | .nx => some (.non, p.2.2)
  | _ => none
  else none
section
variable {P : Program} {w : World} {K : PySem.W.Frag} {mg : Str → Option Value} {base : Heap}
theorem evR_start {B : Addr → Prop} {m : List Addr} {H : Hp} : ∀ {ws : List W} {vs : List V} (n : Nat), Rps K mg B m H ws vs → EvR K mg B m H (ws.map some ++ List.replicate n none) (vs.map some ++ List.replicate n none)
  | _, _, n, .nil => by
    simp only [List.map_nil, List.nil_append]
    induction n with
    | zero => exact .nil
    | succ n ih => rw [List.replicate_succ, List.replicate_succ]; exact .cons trivial ih
  | _, _, n, .cons r t => .cons r (evR_start n t)
theorem fn_w {x qual : Str} {st : Stmt} {f : Addr} {fd : FuncData} {N ps : List Str} {k : Nat} {body : SM} (F : Fun K x qual st f fd) (S : FnScope N ps (defScope st))
    (hb : ∀ (cdv : Value) (A : Around) (outer : List Env) (s : Shared) (H : Hp) (E : XK), Room k (A.deeper (PyProof.Rows.envOfC qual (defScope st) s.heap.objs.size f cdv)) → PSsw (cxOf CX0 P w K mg base N qual (defScope st) f cdv A outer s H E).nox (defBody st) body) :
    FnOk P w K mg base CX0 (k + 1) f fd ps (liftSp K mg ps.length (mkSem ps.length N.length body)) := by
  refine F.ok S (fun vs H Q E h => h.1) fun cdv A outer s H vs Q E hr h => ?_
  obtain ⟨hl, B, m, St0, ws, wv, S', R, p, e, k'⟩ := h
  obtain ⟨t, ht, rt⟩ := (hb cdv A outer s H E hr).ex
  refine ⟨t, ht, ?_⟩
  have hlw : ws.length = ps.length := by rw [p.length]; exact hl
  simp only [mkSem, if_pos hlw, Option.bind_eq_some_iff] at e
  obtain ⟨⟨f1, r1, S1⟩, h1, h2⟩ := e
  have E0' : EvR K mg B m H (ws.map some ++ List.replicate (N.length - ps.length) none) (L2.start N vs) := by
    unfold L2.start
    rw [hl]
    exact evR_start _ p
  refine rt B m _ _ St0 H _ f1 r1 S1 R E0' h1 ?_
  cases f1 with
  | nx =>
    simp only [Option.some.injEq, Prod.mk.injEq] at h2
    obtain ⟨rfl, rfl⟩ := h2
    exact fun B1 m1 H1 s1 st1 R1 E1 => k' B1 m1 H1 _ st1 R1 .non
  | rt u =>
    simp only [Option.some.injEq, Prod.mk.injEq] at h2
    obtain ⟨rfl, rfl⟩ := h2
    exact fun B1 m1 H1 v1 st1 R1 p1 => k' B1 m1 H1 v1 st1 R1 p1
  | bk => cases h2
  | ct => cases h2
end

/-! ### calls -/
/-- a def of the module that stands at the name x and does what sem says -/
structure Def (P : Program) (w : World) (K : PySem.W.Frag) (mg : Str → Option Value) (base : Heap) (k : Nat) (x : Str) (n : Nat) (sem : CM) : Prop where
  ex : ∃ f fd ps, FnOk P w K mg base CX0 k f fd ps (liftSp K mg n sem) ∧ ps.length = n ∧ mg x = some (.ref f) ∧ PySem.W.keepIn K (.ref f) = true ∧ Binds K fd ps []
def mF (fz : Bool) (mask : List Bool) (sem : CM) (a : AM) (r : Ev) (S : Sto) : Option (W × Sto) := (a r S).bind fun p => runF fz mask sem p.1 p.2
section
variable {X : Cx} {k : Nat} {x : Str} {n : Nat} {sem : CM} {p pos apos : Pos} {e o : Expr} {es : List Expr} {ms : AM} {mo : EM}
theorem w_call (fz : Bool) (mask : List Bool) (hF : Def X.prog X.w X.K X.mg X.base k x n sem) (hr : Room k X.A) (hg : Gl X x) (ha : PAw X (e :: es) ms) (hn : (e :: es).length = n := by rfl) (hm : mask.length = n := by rfl) (hdb : (x == ("__debug__" : Str)) = false := by decide)
    (he : starEach (e :: es) X.env = (false, eval e X.env) :: starEach es X.env := by rfl) (hpl : (backTo pos (starEach es X.env)).any (·.1) = false := by rfl) : PEw X (.Call (.Name x p) (e :: es) [] pos) (mF fz mask sem ms) := by
  obtain ⟨f, fd, ps, F, hps, hmg, hk, hb⟩ := hF
  obtain ⟨ta, ha, ra⟩ := ha
  refine ⟨_, pe_call F hr hg hmg hk hb .nil pass0 ha hdb he hpl, ?_⟩
  intro B m r s S H Q w S' R E h kk
  simp only [mF, Option.bind_eq_some_iff] at h
  obtain ⟨⟨ws, S1⟩, h1, h2⟩ := h
  refine ra B m r s S H _ ws S1 R E h1 fun B1 m1 H1 vs s1 R1 p1 => ?_
  rw [List.append_nil]
  have lw : ∀ (mask : List Bool) (ws : List W) (i : Nat) q, splitF mask ws i = some q → ws.length = mask.length := by
    intro mask
    induction mask with
    | nil =>
      intro ws i q hq
      cases ws with
      | nil => rfl
      | cons _ _ => simp [splitF] at hq
    | cons b bs ih =>
      intro ws i q hq
      cases ws with
      | nil => cases b <;> simp [splitF] at hq
      | cons w ws =>
        cases b with
        | false =>
          simp only [splitF] at hq
          split at hq
          · simp only [Option.map_eq_some_iff] at hq
            obtain ⟨_, h3, _⟩ := hq
            simp [ih ws _ _ h3]
          · cases hq
        | true =>
          cases w <;> simp only [splitF, reduceCtorEq, Option.map_eq_some_iff] at hq
          obtain ⟨_, h3, _⟩ := hq
          simp [ih ws _ _ h3]
  have hlen : vs.length = n := by
    rw [← p1.length]
    simp only [runF, Option.bind_eq_some_iff] at h2
    obtain ⟨_, h3, _⟩ := h2
    rw [lw _ _ _ _ h3, hm]
  have := callF_ok (E := E0) R1 p1 h2 fun B2 m2 H2 v s2 R2 p2 => kk B2 m2 H2 v (s1.trans s2) R2 p2
  rw [hlen] at this
  exact this
end
end Zw
set_option maxRecDepth 100000
namespace Zw
open PySem L2

theorem charNat_inj {a b : Char} (h : a.toNat = b.toNat) : a = b := by
  have : a.val = b.val := by
    apply UInt32.toNat_inj.mp
    exact h
  exact Char.ext this
theorem ofString_inj {a b : String} (h : Str.ofString a = Str.ofString b) : a = b := by
  rw [Str.ofString_eq_toList, Str.ofString_eq_toList] at h
  injection h with h
  have h2 : a.toList.map Char.toNat = b.toList.map Char.toNat := by simpa using h
  have h3 : a.toList = b.toList := List.map_inj_right (fun _ _ e => charNat_inj e) |>.mp h2
  exact String.toList_inj.mp h3
theorem ofString_iff {a b : String} : Str.ofString a = Str.ofString b ↔ a = b := ⟨ofString_inj, fun h => by rw [h]⟩

theorem w_gloE {X : Cx} {x : String} {pos : Pos} (hg : Gl X (Str.ofString x)) (hm : ∃ a, X.mg (Str.ofString x) = some (.ref a)) (hd : (Str.ofString x == ("__debug__" : Str)) = false := by decide) : PEw X (.Name (Str.ofString x) pos) (mC (.glo x)) :=
  let ⟨_, h⟩ := hm
  w_glo hg h hd
/-! ### instances -/
@[simp] def fieldOf (f : String) : List String → List W → Option W
  | n :: ns, w :: ws => if n = f then some w else fieldOf f ns ws
  | _, _ => none
@[simp] def putW (f : String) (w : W) : List (String × W) → List (String × W)
  | [] => [(f, w)]
  | (g, x) :: r => if g = f then (g, w) :: r else (g, x) :: putW f w r
@[simp] def lookW (f : String) : List (String × W) → Option W
  | [] => none
  | (g, x) :: r => if g = f then some x else lookW f r
section
variable {K : PySem.W.Frag} {mg : Str → Option Value} {B : Addr → Prop} {m : List Addr} {S : Sto} {H : Hp}
theorem field_at {f : String} : ∀ {ns : List String} {ws : List W} {vs : List V} {w : W}, ns.length = vs.length → Rps K mg B m H ws vs → fieldOf f ns ws = some w → ∃ v, ((ns.map Str.ofString).zip vs).lookup (Str.ofString f) = some v ∧ Rp K mg B m H w v
  | [], ws, _, w, _, p, e => by cases ws <;> simp [fieldOf] at e
  | n :: ns, _, _, w, hl, .nil, e => by simp [fieldOf] at e
  | n :: ns, _, _, w, hl, .cons p ps, e => by
    simp only [fieldOf] at e
    simp only [List.map_cons, List.zip_cons_cons, List.lookup]
    split at e
    · rename_i hn
      cases e
      subst hn
      simp only [beq_self_eq_true]
      exact ⟨_, rfl, p⟩
    · rename_i hn
      have hb : (Str.ofString f == Str.ofString n) = false := beq_eq_false_iff_ne.mpr fun z => hn (ofString_inj z).symm
      simp only [hb]
      exact field_at (by simpa using hl) ps e
abbrev FsR (K : PySem.W.Frag) (mg : Str → Option Value) (B : Addr → Prop) (m : List Addr) (H : Hp) : List (String × W) → List (Str × V) → Prop := Paired fun p q => Str.ofString p.1 = q.1 ∧ Rp K mg B m H p.2 q.2
theorem look_at {f : String} : ∀ {fs : List (String × W)} {vs : List (Str × V)} {w : W}, FsR K mg B m H fs vs → lookW f fs = some w → ∃ v, vs.lookup (Str.ofString f) = some v ∧ Rp K mg B m H w v
  | [], _, w, _, e => by simp [lookW] at e
  | (g, x) :: r, _, w, .cons (b := b) p ps, e => by
    obtain ⟨bk, bv⟩ := b
    obtain ⟨p1, p2⟩ := p
    simp only at p1 p2
    subst p1
    simp only [lookW] at e
    simp only [List.lookup]
    split at e
    · rename_i hn
      cases e
      subst hn
      simp only [beq_self_eq_true]
      exact ⟨bv, rfl, p2⟩
    · rename_i hn
      have hb : (Str.ofString f == Str.ofString g) = false := beq_eq_false_iff_ne.mpr fun z => hn (ofString_inj z).symm
      simp only [hb]
      exact look_at ps e
theorem lookNo {f : String} : ∀ {fs : List (String × W)} {vs : List (Str × V)}, FsR K mg B m H fs vs → lookW f fs = none → vs.lookup (Str.ofString f) = none
  | [], _, .nil, _ => rfl
  | (g, x) :: r, _, .cons (b := b) p ps, e => by
    obtain ⟨bk, bv⟩ := b
    obtain ⟨p1, p2⟩ := p
    simp only at p1 p2
    subst p1
    simp only [lookW] at e
    simp only [List.lookup]
    split at e
    · cases e
    · rename_i hn
      have hb : (Str.ofString f == Str.ofString g) = false := beq_eq_false_iff_ne.mpr fun z => hn (ofString_inj z).symm
      simp only [hb]
      exact lookNo ps e
theorem lookNo' {f : String} : ∀ {ns : List String} {vs : List V}, f ∉ ns → ((ns.map Str.ofString).zip vs).lookup (Str.ofString f) = none
  | [], _, _ => by simp
  | n :: ns, [], _ => by simp
  | n :: ns, v :: vs, h => by
    simp only [List.mem_cons, not_or] at h
    have hb : (Str.ofString f == Str.ofString n) = false := beq_eq_false_iff_ne.mpr fun z => h.1 (ofString_inj z)
    simp only [List.map_cons, List.zip_cons_cons, List.lookup, hb]
    exact lookNo' h.2
theorem put_at {f : String} {w : W} {v : V} (p : Rp K mg B m H w v) : ∀ {fs : List (String × W)} {vs : List (Str × V)}, FsR K mg B m H fs vs → FsR K mg B m H (putW f w fs) (putF (Str.ofString f) v vs)
  | [], _, .nil => .cons ⟨rfl, p⟩ .nil
  | (g, x) :: r, _, .cons (b := b) q qs => by
    obtain ⟨bk, bv⟩ := b
    obtain ⟨q1, q2⟩ := q
    simp only at q1 q2
    subst q1
    simp only [putW, putF]
    by_cases h : g = f
    · rw [if_pos h, if_pos (by rw [h])]
      exact .cons ⟨rfl, p⟩ qs
    · rw [if_neg h, if_neg fun z => h (ofString_inj z)]
      exact .cons ⟨rfl, q2⟩ (put_at p qs)
theorem fs_zip : ∀ {fs : List (String × W)} {vs : List (Str × V)}, FsR K mg B m H fs vs → vs = ((fs.map (·.1)).map Str.ofString).zip (vs.map (·.2)) ∧ Rps K mg B m H (fs.map (·.2)) (vs.map (·.2))
  | [], _, .nil => ⟨rfl, .nil⟩
  | (g, x) :: r, _, .cons (b := b) q qs => by
    obtain ⟨bk, bv⟩ := b
    obtain ⟨q1, q2⟩ := q
    simp only at q1 q2
    subst q1
    obtain ⟨e, p⟩ := fs_zip qs
    exact ⟨by simp only [List.map_cons, List.zip_cons_cons]; rw [← e], .cons q2 p⟩
end
@[simp] def attrW (cs : List String) (f : String) (x : W) (S : Sto) : Option (W × Sto) := match x with
  | .ins c ns ws => if cs.contains c = true then (fieldOf f ns ws).map fun w => (w, S) else none
  | .ref k => match S[k]? with
    | some (.ins c fs) => if cs.contains c = true then (lookW f fs).map fun w => (w, S) else none
    | _ => none
  | _ => none
section
variable {X : Cx} {o e value : Expr} {es : List Expr} {f : String} {pos pos' apos p : Pos} {mo mv : EM} {ms : AM} {k n : Nat} {sem : CM}
theorem w_attr (cs : List String) (hf : ∀ c ∈ cs, ∀ C, X.mg (Str.ofString c) = some (.ref C) → Cls X.K C ∧ NoAttr X.K C (Str.ofString f)) (he : PEw X e mo) (hb : attributeBase e (Str.ofString f) X.env (eval e X.env) = eval e X.env := by rfl) : PEw X (.Attribute e (Str.ofString f) pos) (mUn (attrW cs f) mo) := by
  obtain ⟨t, he, re⟩ := he
  refine ⟨_, pe_fld he hb, ?_⟩
  intro B m r s S H Q w S' R E h k
  simp only [mUn, Option.bind_eq_some_iff] at h
  obtain ⟨⟨x, S1⟩, h1, h2⟩ := h
  refine re B m r s S H _ x S1 R E h1 fun B1 m1 H1 v s1 R1 p1 => ?_
  unfold attrW at h2
  simp only at h2
  split at h2
  · split at h2
    · rename_i hc
      simp only [Option.map_eq_some_iff] at h2
      obtain ⟨w2, h3, h4⟩ := h2
      cases h4
      cases p1 with
      | ins n g hh hl ps =>
        obtain ⟨v, l, pv⟩ := field_at hl ps h3
        obtain ⟨c1, c2⟩ := hf _ (by simpa using hc) _ g
        exact ⟨_, _, _, _, v, rfl, hh, c1, c2, l, k B1 m1 H1 v s1 R1 pv⟩
    · cases h2
  · split at h2
    · rename_i c fs hs
      split at h2
      · rename_i hc
        simp only [Option.map_eq_some_iff] at h2
        obtain ⟨w2, h3, h4⟩ := h2
        cases h4
        cases p1 with
        | ref hk =>
          obtain ⟨a', h5, C, dx, vs, g, hh, hp⟩ := R1.at hs
          rw [hk] at h5; cases h5
          obtain ⟨v, l, pv⟩ := look_at hp h3
          obtain ⟨c1, c2⟩ := hf _ (by simpa using hc) _ g
          exact ⟨_, _, _, _, v, rfl, hh, c1, c2, l, k B1 m1 H1 v s1 R1 pv⟩
      · cases h2
    · cases h2
  · cases h2
def mFld (cs : List String) (f : String) (mo mv : EM) (r : Ev) (S : Sto) : Option (Fl × Ev × Sto) := (mv r S).bind fun p => (mo r p.2).bind fun q => match q.1 with
  | .ref k => match q.2[k]? with
    | some (.ins c fs) => if (cs.contains c && decide (fs.length < 1000)) = true then some (.nx, r, q.2.set k (.ins c (putW f p.1 fs))) else none
    | _ => none
  | _ => none
theorem ws_fld (cs : List String) (hf : ∀ c ∈ cs, ∀ C, X.mg (Str.ofString c) = some (.ref C) → Cls X.K C ∧ NoAttr X.K C (Str.ofString f)) (ho : PEw X o mo) (hv : PEw X value mv) (hs : swapsWith value (some (.Attribute o (Str.ofString f) pos')) pos.line X.env = pure false := by rfl) :
    PSw X (.Assign [.Attribute o (Str.ofString f) pos'] value pos) (mFld cs f mo mv) := by
  obtain ⟨to, ho, ro⟩ := ho
  obtain ⟨tv, hv, rv⟩ := hv
  refine ⟨_, ps_fld ho hv hs, ?_⟩
  intro B m r s S H D fl r' S' R E h k
  simp only [mFld, Option.bind_eq_some_iff] at h
  obtain ⟨⟨y, S1⟩, h1, ⟨x, S2⟩, h2, h3⟩ := h
  simp only at h3
  refine rv B m r s S H _ y S1 R E h1 fun B1 m1 H1 vy s1 R1 p1 => ?_
  refine ro B1 m1 r s S1 H1 _ x S2 R1 (E.mono s1 R.inB) h2 fun B2 m2 H2 vx s2 R2 p2 => ?_
  split at h3
  · split at h3
    · rename_i c fs hs
      split at h3
      · rename_i hc
        cases h3
        rw [Bool.and_eq_true] at hc
        cases p2 with
        | ref hk =>
          obtain ⟨a', h5, C, dx, vs, g, hh, hp⟩ := R2.at hs
          rw [hk] at h5; cases h5
          obtain ⟨c1, c2⟩ := hf _ (by simpa using hc.1) _ g
          have st := Stp.write R2 hk (.ins C dx (putF (Str.ofString f) vy vs))
          have hl : vs.length < 1000 := by
            rw [← Paired.length hp]
            exact of_decide_eq_true hc.2
          refine ⟨_, C, dx, vs, rfl, hh, c1, c2, hl, ?_⟩
          refine k B2 m2 _ s ((s1.trans s2).trans st) (R2.write hk ⟨C, dx, _, g, upd_same, ?_⟩) (((E.mono s1 R.inB).mono s2 R1.inB).mono st R2.inB)
          exact Paired.mapP (put_at (p1.mono s2 R1.inB) hp) fun _ _ q => ⟨q.1, q.2.mono st R2.inB⟩
      · cases h3
    · cases h3
  · cases h3

/-! ### methods of own classes -/
@[simp] def insOk (c f : String) (w : W) (S : Sto) : Bool := match w with
  | .ins c' ns _ => c' == c && !(ns.contains f)
  | .ref k => match S[k]? with
    | some (.ins c' fs) => c' == c && (lookW f fs).isNone
    | _ => false
  | _ => false
theorem ins_at {c : String} {B : Addr → Prop} {m : List Addr} {S : Sto} {H : Hp} {x : W} {v : V} (R : Rel X.K X.mg B m S H) (p : Rp X.K X.mg B m H x v) (h : insOk c f x S = true) : ∃ a C dx fs, v = .ref a ∧ X.mg (Str.ofString c) = some (.ref C) ∧ H a = some (.ins C dx fs) ∧ fs.lookup (Str.ofString f) = none := by
  cases p with
  | ins n g hh hl ps =>
    simp only [insOk, Bool.and_eq_true, beq_iff_eq, Bool.not_eq_true'] at h
    obtain ⟨rfl, h2⟩ := h
    exact ⟨_, _, _, _, rfl, g, hh, lookNo' (by simpa using h2)⟩
  | ref hk =>
    simp only [insOk] at h
    split at h
    · rename_i c' fs hs
      simp only [Bool.and_eq_true, beq_iff_eq, Option.isNone_iff_eq_none] at h
      obtain ⟨rfl, h2⟩ := h
      obtain ⟨a', h5, C, dx, vs, g, hh, hp⟩ := R.at hs
      rw [hk] at h5; cases h5
      exact ⟨_, _, _, _, rfl, g, hh, lookNo hp h2⟩
    · cases h
  | _ => simp [insOk] at h
/-- the method m of the class c does what sem says (its self first) -/
structure Mth (P : Program) (w : World) (K : PySem.W.Frag) (mg : Str → Option Value) (base : Heap) (k : Nat) (c f : String) (n : Nat) (sem : CM) : Prop where
  ex : ∃ C g fd ps, FnOk P w K mg base CX0 k g fd ps (liftSp K mg n sem) ∧ ps.length = n ∧ mg (Str.ofString c) = some (.ref C) ∧ Cls K C ∧ Meth K C (Str.ofString f) g ∧ Binds K fd ps []
def mM (fz : Bool) (c f : String) (mask : List Bool) (sem : CM) (o : EM) (a : AM) (r : Ev) (S : Sto) : Option (W × Sto) := (o r S).bind fun p => if insOk c f p.1 p.2 = true then (a r p.2).bind fun q => runF fz mask sem (p.1 :: q.1) q.2 else none
theorem splitF_len : ∀ {mask : List Bool} {ws : List W} {i : Nat} {q : List Nat × List W}, splitF mask ws i = some q → ws.length = mask.length
  | [], [], _, _, _ => rfl
  | [], _ :: _, _, _, h => by simp [splitF] at h
  | false :: _, [], _, _, h => by simp [splitF] at h
  | true :: _, [], _, _, h => by simp [splitF] at h
  | false :: bs, w :: ws, i, q, h => by
    simp only [splitF] at h
    split at h
    · simp only [Option.map_eq_some_iff] at h
      obtain ⟨_, h3, _⟩ := h
      simp [splitF_len h3]
    · cases h
  | true :: bs, w :: ws, i, q, h => by
    cases w <;> simp only [splitF, reduceCtorEq, Option.map_eq_some_iff] at h
    obtain ⟨_, h3, _⟩ := h
    simp [splitF_len h3]
theorem runF_len {fz : Bool} {mask : List Bool} {ws : List W} {S : Sto} {q : W × Sto} (h : runF fz mask sem ws S = some q) : ws.length = mask.length := by
  simp only [runF, Option.bind_eq_some_iff] at h
  obtain ⟨_, h3, _⟩ := h
  exact splitF_len h3
theorem w_meth (fz : Bool) (c : String) (mask : List Bool) {pl : Sem Bool} (hM : Mth X.prog X.w X.K X.mg X.base k c f n sem) (hr : Room k X.A) (ho : PEw X o mo) (ha : PAw X (e :: es) ms) (hm : mask.length = n := by rfl)
    (hst : starEach (e :: es) X.env = (false, eval e X.env) :: starEach es X.env := by rfl) (hpl : (backTo pos (starEach es X.env)).any (·.1) = false := by rfl)
    (ht : eval (.Call (.Attribute o (Str.ofString f) apos) (e :: es) [] pos) X.env = (do
      let ov ← eval o X.env
      standAt apos.atName
      let (f, first) ← holding [ov] (getMethod ov (Str.ofString f) pl)
      callWith pos f first (backTo pos (starEach (e :: es) X.env)) (backToKw pos (keywordEach [] X.env))) := by rfl) :
    PEw X (.Call (.Attribute o (Str.ofString f) apos) (e :: es) [] pos) (mM fz c f mask sem mo ms) := by
  obtain ⟨C, g, fd, ps, F, hps, hmg, cl, mt, hb⟩ := hM
  obtain ⟨to, ho, ro⟩ := ho
  obtain ⟨ta, ha, ra⟩ := ha
  refine ⟨_, pe_meth (pl := pl) ho cl mt F hr hb .nil pass0 ha hst hpl ht, ?_⟩
  intro B m r s S H Q w S' R E h kk
  simp only [mM, Option.bind_eq_some_iff] at h
  obtain ⟨⟨x, S1⟩, h1, h2⟩ := h
  simp only at h2
  split at h2
  · rename_i hok
    simp only [Option.bind_eq_some_iff] at h2
    obtain ⟨⟨ws, S2⟩, h3, h4⟩ := h2
    refine ro B m r s S H _ x S1 R E h1 fun B1 m1 H1 vx s1 R1 p1 => ?_
    obtain ⟨a, C', dx, fs, rfl, hC, hh, hl⟩ := ins_at R1 p1 hok
    rw [hmg] at hC; cases hC
    refine ⟨a, dx, fs, rfl, hh, hl, ra B1 m1 r s S1 H1 _ ws S2 R1 (E.mono s1 R.inB) h3 fun B2 m2 H2 vs s2 R2 p2 => ?_⟩
    rw [List.append_nil]
    have pp : Rps X.K X.mg B2 m2 H2 (x :: ws) (.ref a :: vs) := .cons (p1.mono s2 R1.inB) p2
    have := callF_ok (E := E0) R2 pp h4 fun B3 m3 H3 v s3 R3 p3 => kk B3 m3 H3 v ((s1.trans s2).trans s3) R3 p3
    have hlen : (V.ref a :: vs).length = n := by rw [← pp.length, runF_len h4, hm]
    rw [hlen] at this
    exact this
  · cases h2
theorem w_meth0 (fz : Bool) (c : String) (mask : List Bool) {pl : Sem Bool} (hM : Mth X.prog X.w X.K X.mg X.base k c f n sem) (hr : Room k X.A) (ho : PEw X o mo) (hm : mask.length = n := by rfl)
    (ht : eval (.Call (.Attribute o (Str.ofString f) apos) [] [] pos) X.env = (do
      let ov ← eval o X.env
      standAt apos.atName
      let (f, first) ← holding [ov] (getMethod ov (Str.ofString f) pl)
      callWith pos f first (backTo pos (starEach [] X.env)) (backToKw pos (keywordEach [] X.env))) := by rfl) :
    PEw X (.Call (.Attribute o (Str.ofString f) apos) [] [] pos) (mM fz c f mask sem mo mNil) := by
  obtain ⟨C, g, fd, ps, F, hps, hmg, cl, mt, hb⟩ := hM
  obtain ⟨to, ho, ro⟩ := ho
  refine ⟨_, pe_meth0 (pl := pl) ho cl mt F hr hb .nil pass0 ht, ?_⟩
  intro B m r s S H Q w S' R E h kk
  simp only [mM, mNil, Option.bind_eq_some_iff] at h
  obtain ⟨⟨x, S1⟩, h1, h2⟩ := h
  simp only at h2
  split at h2
  · rename_i hok
    simp only [Option.bind_some] at h2
    refine ro B m r s S H _ x S1 R E h1 fun B1 m1 H1 vx s1 R1 p1 => ?_
    obtain ⟨a, C', dx, fs, rfl, hC, hh, hl⟩ := ins_at R1 p1 hok
    rw [hmg] at hC; cases hC
    refine ⟨a, dx, fs, rfl, hh, hl, ?_⟩
    have pp : Rps X.K X.mg B1 m1 H1 [x] [.ref a] := .cons p1 .nil
    have := callF_ok (E := E0) R1 pp h2 fun B3 m3 H3 v s3 R3 p3 => kk B3 m3 H3 v (s1.trans s3) R3 p3
    have hlen : [V.ref a].length = n := by rw [← pp.length, runF_len h2, hm]
    rw [hlen] at this
    exact this
  · cases h2
/-! ### C.m(..), a static method -/
structure Smt (P : Program) (w : World) (K : PySem.W.Frag) (mg : Str → Option Value) (base : Heap) (k : Nat) (c f : String) (n : Nat) (sem : CM) : Prop where
  ex : ∃ C mc pp g rest fd ps, FnOk P w K mg base CX0 k g fd ps (liftSp K mg n sem) ∧ ps.length = n ∧ mg (Str.ofString c) = some (.ref C) ∧ PySem.W.readsIn K C mc = true ∧ PySem.W.specialIn K (.ref C) "__getattribute__" = some (some (.builtin "type.__getattribute__")) ∧
    PySem.W.findCls K (.ref C) mc (Str.ofString f) = some (.get (.builtin "staticmethod.__get__") (.ref pp) .none (.ref C)) ∧ PySem.W.recIn K pp "staticmethod" = some (.ref g :: rest) ∧ PySem.W.keepIn K (.ref g) = true ∧ Binds K fd ps []
theorem w_static (fz : Bool) (c : String) (mask : List Bool) {pl : Sem Bool} (hM : Smt X.prog X.w X.K X.mg X.base k c f n sem) (hr : Room k X.A) (hg : Gl X (Str.ofString c)) (ha : PAw X (e :: es) ms) (hm : mask.length = n := by rfl) (hd : (Str.ofString c == ("__debug__" : Str)) = false := by decide)
    (hst : starEach (e :: es) X.env = (false, eval e X.env) :: starEach es X.env := by rfl) (hpl : (backTo pos (starEach es X.env)).any (·.1) = false := by rfl)
    (ht : eval (.Call (.Attribute (.Name (Str.ofString c) p) (Str.ofString f) apos) (e :: es) [] pos) X.env = (do
      let ov ← eval (.Name (Str.ofString c) p) X.env
      standAt apos.atName
      let (f, first) ← holding [ov] (getMethod ov (Str.ofString f) pl)
      callWith pos f first (backTo pos (starEach (e :: es) X.env)) (backToKw pos (keywordEach [] X.env))) := by rfl) :
    PEw X (.Call (.Attribute (.Name (Str.ofString c) p) (Str.ofString f) apos) (e :: es) [] pos) (mF fz mask sem ms) := by
  obtain ⟨C, mc, pp, g, rest, fd, ps, F, hps, hmg, hrd, hga, hat, hrc, hkp, hb⟩ := hM
  obtain ⟨ta, ha, ra⟩ := ha
  have pe : PE X (.Call (.Attribute (.Name (Str.ofString c) p) (Str.ofString f) apos) (e :: es) [] pos) (tCall (liftSp X.K X.mg n sem) [] E0 ta) := by
    refine ⟨fun pins s σ H Q I h => ?_⟩
    refine PySem.W.methodCall_KW (pl := pl) (ld_glob I hg hmg ?_ hd) ht
    refine PySem.W.method_cls I.kIn hga (PySem.W.cls_bind I.kIn hrd hat (wpAny_call (PySem.W.sm_get (s := { s with toks := s.toks + 1 }) I.kIn hrc (PySem.W.handed_on rfl ?_))))
    have I1 : Inv X pins σ H { s with toks := s.toks + 1 } := I.tok _
    refine PySem.W.callWith_K (first := []) (h₀ := X.base) I.ok.mod.kin hkp (thn (ha.run pos pins _ σ H _ I1 h) fun us s2 ⟨vs, H2, I2, r, q2⟩ => ⟨I2.kIn, ?_⟩) hst hpl
    exact run_fn (us := us) (vs := vs) F hr hb .nil pass0 I2 r q2
  refine ⟨_, pe, ?_⟩
  intro B m r s S H Q w S' R E h kk
  simp only [mF, Option.bind_eq_some_iff] at h
  obtain ⟨⟨ws, S1⟩, h1, h2⟩ := h
  refine ra B m r s S H _ ws S1 R E h1 fun B1 m1 H1 vs s1 R1 p1 => ?_
  rw [List.append_nil]
  have hlen : vs.length = n := by rw [← p1.length, runF_len h2, hm]
  have := callF_ok (E := E0) R1 p1 h2 fun B2 m2 H2 v s2 R2 p2 => kk B2 m2 H2 v (s1.trans s2) R2 p2
  rw [hlen] at this
  exact this
/-! ### a new instance, that stays as __init__ leaves it -/
structure Mak (P : Program) (w : World) (K : PySem.W.Frag) (mg : Str → Option Value) (base : Heap) (k : Nat) (c : String) (n : Nat) (sem : CM) : Prop where
  ex : ∃ C g fd ps, FnOk P w K mg base CX0 k g fd ps (liftSp K mg n sem) ∧ ps.length = n ∧ mg (Str.ofString c) = some (.ref C) ∧ Mk K C g ∧ Binds K fd ps []
def mMk (c : String) (ns : List String) (sem : CM) (a : AM) (r : Ev) (S : Sto) : Option (W × Sto) := (a r S).bind fun p => if flats p.1 = true then (sem (.ref 0 :: p.1) [.ins c []]).bind fun q => match q.1 with
    | .non => match q.2[(0 : Nat)]? with
      | some (.ins c' fs) => if (c' == c && fs.map (·.1) == ns && fs.all fun x => x.2.flat) = true then some (.ins c ns (fs.map (·.2)), p.2) else none
      | _ => none
    | _ => none
  else none
theorem w_make (c : String) (ns : List String) (hM : Mak X.prog X.w X.K X.mg X.base k c (n + 1) sem) (hr : Room (k + 1) X.A) (hg : Gl X (Str.ofString c)) (ha : PAw X (e :: es) ms) (hn : (e :: es).length = n := by rfl) (hdb : (Str.ofString c == ("__debug__" : Str)) = false := by decide)
    (he : starEach (e :: es) X.env = (false, eval e X.env) :: starEach es X.env := by rfl) (hpl : (backTo pos (starEach es X.env)).any (·.1) = false := by rfl)
    (hlen : ∀ r S q, ms r S = some q → q.1.length = n) : PEw X (.Call (.Name (Str.ofString c) p) (e :: es) [] pos) (mMk c ns sem ms) := by
  obtain ⟨C, g, fd, ps, F, hps, hmg, M, hb⟩ := hM
  obtain ⟨ta, ha, ra⟩ := ha
  refine ⟨_, pe_make M F hr hg hmg hb .nil pass0 ha hdb he hpl, ?_⟩
  intro B m r s S H Q w S' R E h kk
  simp only [mMk, Option.bind_eq_some_iff] at h
  obtain ⟨⟨ws, S1⟩, h1, h2⟩ := h
  simp only at h2
  split at h2
  · rename_i hfl
    simp only [Option.bind_eq_some_iff] at h2
    obtain ⟨⟨v, S2⟩, h3, h4⟩ := h2
    simp only at h4
    split at h4
    · split at h4
      · rename_i c' fs hs
        split at h4
        · rename_i hc
          cases h4
          simp only [Bool.and_eq_true, beq_iff_eq] at hc
          obtain ⟨⟨rfl, hns⟩, hff⟩ := hc
          refine ra B m r s S H _ ws _ R E h1 fun B1 m1 H1 vs s1 R1 p1 => ?_
          rw [List.append_nil]
          intro x dx hx hdx hne
          have hx2 : upd H1 dx (.own x) x = none := by rw [upd_ne (Ne.symm hne)]; exact hx
          have Rd1 := R1.frz hdx (.own x)
          have st1 := Stp.frz R1 hdx (.own x)
          have st2 : Stp B1 m1 (upd H1 dx (.own x)) (fun a => B1 a ∨ a = x) m1 (upd (upd H1 dx (.own x)) x (.ins C dx [])) := Stp.prot hx2
          have st12 := st1.trans st2
          have pws : Rps X.K X.mg (fun a => B1 a ∨ a = x) [x] (upd (upd H1 dx (.own x)) x (.ins C dx [])) ws vs := (p1.mono st12 R1.inB).flat hfl
          have nBx : ¬ B1 x := R1.none_of hx
          refine ⟨?_, fun a => B1 a ∨ a = x, [x], [.ins c' []], .ref 0 :: ws, .non, S2, ⟨by simp, rfl, fun a z => .inr (List.mem_singleton.mp z), fun a z => ?_, fun j a o e1 e2 => ?_⟩, .cons (.ref rfl) pws, h3, fun B' m' H' vv st R' p' => ?_⟩
          · rw [List.length_cons, ← p1.length, hlen _ _ _ h1]
          · rcases z with z | z
            · obtain ⟨u, q⟩ := R1.trk a z
              exact st12.there a u q
            · subst z; exact ⟨_, upd_same⟩
          · cases j with
            | zero =>
              simp at e1 e2
              subst e1 e2
              exact ⟨C, dx, [], hmg, upd_same, .nil⟩
            | succ j => simp at e1
          · cases p'
            refine ⟨rfl, ?_⟩
            obtain ⟨nw, en, fn⟩ := st.pre
            have hm0 : m'[0]? = some x := by rw [en]; rfl
            obtain ⟨C2, dx2, vs2, g1, g2, g3⟩ := R'.obj 0 x _ hm0 hs
            rw [hmg] at g1; cases g1
            have stf : Stp B1 m1 H1 B1 m1 H' := by
              refine ⟨⟨[], by simp, by simp⟩, fun _ z => z, fun _ z n => absurd z n, fun a o q n => ?_, fun a o q => ?_⟩
              · have h7 := st12.keep a o q n
                refine st.keep a o h7 fun z => ?_
                rw [List.mem_singleton.mp z, hx] at q
                cases q
              · obtain ⟨o2, q2⟩ := st12.there a o q
                exact st.there a o2 q2
            have keepAll : ∀ a o, H1 a = some o → H' a = some o := fun a o q => by
              refine st.keep a o ?_ fun z => ?_
              · rw [upd_ne (ne_of_none q hx), upd_ne (ne_of_none q hdx)]; exact q
              · rw [List.mem_singleton.mp z, hx] at q; cases q
            obtain ⟨z1, z2⟩ := fs_zip g3
            refine kk B1 m1 H' _ (s1.trans stf) ⟨R1.nodup, R1.len, R1.inB, fun a z => ?_, fun j a o e1 e2 => (R1.obj j a o e1 e2).mono stf R1.inB fun u q => keepAll a u q⟩ (.ins nBx hmg (dx := dx2) (vs := vs2.map (·.2)) ?_ ?_ ?_)
            · obtain ⟨u, q⟩ := R1.trk a z
              exact ⟨u, keepAll a u q⟩
            · rw [← hns, ← z1]; exact g2
            · rw [← hns, List.length_map, List.length_map]; exact Paired.length g3
            · refine (z2.less fun a z => st.grow a (.inl z)).flat ?_
              have : ∀ l : List (String × W), (l.all fun x => x.2.flat) = true → flats (l.map (·.2)) = true := by
                intro l
                induction l with
                | nil => intro _; rfl
                | cons a l ih =>
                  intro h
                  simp only [List.all_cons, Bool.and_eq_true] at h
                  simp only [List.map_cons, flats, Bool.and_eq_true]
                  exact ⟨h.1, ih h.2⟩
              exact this fs hff
        · cases h4
      · cases h4
    · cases h4
  · cases h2
theorem cons_len {a : EM} {b : AM} {n : Nat} (h : ∀ r S q, b r S = some q → q.1.length = n) : ∀ r S q, mCons a b r S = some q → q.1.length = n + 1 := fun r S q e => by
  simp only [mCons, Option.bind_eq_some_iff] at e
  obtain ⟨p, _, p2, h2, h3⟩ := e
  cases h3
  simp [h _ _ _ h2]
theorem nil_len : ∀ r S q, mNil r S = some q → q.1.length = 0 := fun r S q e => by cases e; rfl

/-! ### isinstance -/
@[simp] def tyNames : List String := ["NoneType", "bool", "int", "str", "tuple", "list", "dict"]
@[simp] def tyName (S : Sto) : W → Option String
  | .non => some "NoneType"
  | .bl _ => some "bool"
  | .int _ => some "int"
  | .str _ => some "str"
  | .tup _ => some "tuple"
  | .lst _ => some "list"
  | .lsr _ => some "list"
  | .ref k => match S[k]? with
    | some (.lst _) => some "list"
    | some (.dK _) => some "dict"
    | some (.dT _) => some "dict"
    | _ => none
  | _ => none
@[simp] def isTyB (a b : String) : Bool := a == b || (a == "bool" && b == "int")
theorem kit_names : ∀ a ∈ tyNames, ∀ b ∈ tyNames, kitB a b = some (isTyB a b) := by decide +kernel
theorem tyx_at {B : Addr → Prop} {m : List Addr} {S : Sto} {H : Hp} {x : W} {v : V} {t : String} (R : Rel X.K X.mg B m S H) (p : Rp X.K X.mg B m H x v) (h : tyName S x = some t) : TyX X.K H v (.type t) ∧ t ∈ tyNames := by
  cases p with
  | non => cases h; exact ⟨.base .non, by simp [tyNames]⟩
  | bl b => cases h; exact ⟨.base (.bl b), by simp [tyNames]⟩
  | int b => cases h; exact ⟨.base (.int b), by simp [tyNames]⟩
  | str b => cases h; exact ⟨.base (.str b), by simp [tyNames]⟩
  | tup f q =>
    cases h
    refine ⟨?_, by simp [tyNames]⟩
    rcases f with ⟨_, f | ⟨o, f⟩⟩ | ⟨o, its, n, f1, f2, _⟩
    · exact .base (.tup f)
    · exact .fTuple f
    · exact .kTuple f1 f2
  | lst n f q => cases h; exact ⟨.base (.lst f), by simp [tyNames]⟩
  | lsr f q =>
    cases h
    refine ⟨?_, by simp [tyNames]⟩
    rcases f with ⟨_, f | ⟨o, f⟩⟩ | ⟨o, its, n, f1, f2, _⟩
    · exact .base (.lst f)
    · exact .base (.frz f)
    · exact .kList f1 f2
  | ref hk =>
    simp only [tyName] at h
    split at h
    · rename_i ws hs
      cases h
      obtain ⟨a', h1, vs, h2, h3⟩ := R.at hs
      rw [hk] at h1; cases h1
      exact ⟨.base (.lst h2), by simp [tyNames]⟩
    · rename_i ws hs
      cases h
      obtain ⟨a', h1, vs, h2, h3⟩ := R.at hs
      rw [hk] at h1; cases h1
      exact ⟨.base (.dK h2), by simp [tyNames]⟩
    · rename_i ws hs
      cases h
      obtain ⟨a', h1, vs, h2, h3⟩ := R.at hs
      rw [hk] at h1; cases h1
      exact ⟨.base (.dT h2), by simp [tyNames]⟩
    · cases h
  | ins _ _ _ _ _ => simp [tyName] at h
  | glo _ => simp [tyName] at h
  | ty _ => simp [tyName] at h
/-- what isinstance asks of an own class -/
structure ClsX (K : PySem.W.Frag) (C : Addr) : Prop where
  cl : Cls K C
  ha : PySem.W.findIn K (.ref C) "__class__" = some (some (.builtin "object.__class__"))
  hn : PySem.W.specialIn K (.builtin "object.__class__") "__get__" = some (some (.builtin "getset_descriptor.__get__"))
  htk : PySem.W.takesIn K (.builtin "object.__class__") = some true
  hm : PySem.W.mroIn K C (.type "object") = some true
  inB : ∀ t ∈ tyNames, PySem.W.kitOne K (.type t) (.ref C) = some false
  outB : ∀ t ∈ tyNames, PySem.W.kitOne K (.ref C) (.type t) = some false
@[simp] def clsOf (S : Sto) : W → Option String
  | .ins c _ _ => some c
  | .ref k => match S[k]? with
    | some (.ins c _) => some c
    | _ => none
  | _ => none
theorem cls_at {B : Addr → Prop} {m : List Addr} {S : Sto} {H : Hp} {x : W} {v : V} {c : String} (R : Rel X.K X.mg B m S H) (p : Rp X.K X.mg B m H x v) (h : clsOf S x = some c) : ∃ a C dx fs, v = .ref a ∧ X.mg (Str.ofString c) = some (.ref C) ∧ H a = some (.ins C dx fs) := by
  cases p with
  | ins n g hh hl ps => cases h; exact ⟨_, _, _, _, rfl, g, hh⟩
  | ref hk =>
    simp only [clsOf] at h
    split at h
    · rename_i c' fs hs
      cases h
      obtain ⟨a', h5, C, dx, vs, g, hh, hp⟩ := R.at hs
      rw [hk] at h5; cases h5
      exact ⟨_, _, _, _, rfl, g, hh⟩
    · cases h
  | _ => simp [clsOf] at h
@[simp] def isiW (cs : List String) (ws : List W) (S : Sto) : Option (W × Sto) := match ws with
  | [x, .ty n] => if tyNames.contains n = true then match tyName S x with
      | some t => some (.bl (isTyB t n), S)
      | none => match clsOf S x with
        | some c => if cs.contains c = true then some (.bl false, S) else none
        | none => none
    else none
  | [x, .glo d] => if cs.contains d = true then match tyName S x with
      | some t => some (.bl false, S)
      | none => match clsOf S x with
        | some c => if (c == d) = true then some (.bl true, S) else none
        | none => none
    else none
  | _ => none
theorem c_isi (cs : List String) (hc : ∀ c ∈ cs, ∀ C, X.mg (Str.ofString c) = some (.ref C) → ClsX X.K C) : CallW X (.builtin "isinstance") (isiW cs) := by
  refine ⟨_, call_isi, ?_⟩
  intro B m S H ws vs Q w S' R ps e k
  unfold isiW at e
  split at e
  · rename_i x n
    cases ps with
    | cons px pn =>
    cases pn with
    | cons py pn =>
    cases pn
    cases py
    split at e
    · rename_i hn
      have hn' : n ∈ tyNames := by simpa using hn
      split at e
      · rename_i t ht
        cases e
        obtain ⟨ty, tm⟩ := tyx_at R px ht
        exact ⟨_, _, _, _, _, rfl, .ty n, ty, kit_ty (kit_names t tm n hn'), k B m H _ .refl R (.bl _)⟩
      · split at e
        · rename_i c hcl
          split at e
          · rename_i hcc
            cases e
            obtain ⟨a, C, dx, fs, rfl, g, hh⟩ := cls_at R px hcl
            have z := hc c (by simpa using hcc) C g
            exact ⟨_, _, _, _, _, rfl, .ty n, .base (.ins hh z.cl z.ha z.hn z.htk z.hm), z.outB n hn', k B m H _ .refl R (.bl _)⟩
          · cases e
        · cases e
    · cases e
  · rename_i x d
    cases ps with
    | cons px pn =>
    cases pn with
    | cons py pn =>
    cases pn
    cases py with
    | @glo a2 _ g2 =>
    split at e
    · rename_i hd
      have z2 := hc d (by simpa using hd) _ g2
      split at e
      · rename_i t ht
        cases e
        obtain ⟨ty, tm⟩ := tyx_at R px ht
        exact ⟨_, _, _, _, _, rfl, .own a2, ty, z2.inB t tm, k B m H _ .refl R (.bl _)⟩
      · split at e
        · rename_i c hcl
          split at e
          · rename_i hcc
            cases e
            have hcd : c = d := by simpa using hcc
            subst hcd
            obtain ⟨a, C, dx, fs, rfl, g, hh⟩ := cls_at R px hcl
            rw [g2] at g; cases g
            refine ⟨_, _, _, _, _, rfl, .own a2, .base (.ins hh z2.cl z2.ha z2.hn z2.htk z2.hm), ?_, k B m H _ .refl R (.bl _)⟩
            unfold PySem.W.kitOne
            rw [if_pos (by simp)]
          · cases e
        · cases e
    · cases e
  · cases e

/-! ### operators of own classes -/
structure Opr (P : Program) (w : World) (K : PySem.W.Frag) (mg : Str → Option Value) (base : Heap) (k : Nat) (c : String) (f : Str) (n : Nat) (sem : CM) : Prop where
  ex : ∃ C g fd ps, FnOk P w K mg base CX0 k g fd ps (liftSp K mg n sem) ∧ ps.length = n ∧ mg (Str.ofString c) = some (.ref C) ∧ PySem.W.findIn K (.ref C) f = some (some (.ref g)) ∧ PySem.W.isFn K (.ref g) = true ∧ PySem.W.selfFirst K C = true ∧
    (∀ t ∈ tyNames, PySem.W.subIn K (.type t) (.ref C) = some false) ∧ Binds K fd ps []
@[simp] def ownW (c : String) (sem : CM) (x y : W) (S : Sto) : Option (W × Sto) := match x, y with
  | .ins c1 n1 w1, .ins c2 n2 w2 => if (c1 == c && c2 == c) = true then runF true [false, false] sem [.ins c1 n1 w1, .ins c2 n2 w2] S else none
  | _, _ => none
theorem ep_back {pins : List (Addr × Obj)} {σ : L2.St} {Q : VK} {v : Value} {s' : Shared} (h : EP X pins σ Q v s') : PySem.W.CmpBack (EP X pins σ Q) v s' := by
  obtain ⟨vv, H', I, r, q⟩ := id h
  cases vv with
  | non => cases r; exact h
  | bl b => cases r; exact h
  | int i => obtain ⟨t, rfl⟩ := r; exact h
  | str i => obtain ⟨t, rfl⟩ := r; exact h
  | byt i => obtain ⟨t, rfl⟩ := r; exact h
  | flt i => obtain ⟨t, rfl⟩ := r; exact h
  | ref a => cases r; exact h
  | ty n => cases r; exact h
theorem o_own {c : String} {op : Operator} (hM : Opr X.prog X.w X.K X.mg X.base k c (PySem.dunder op.info.2) 2 sem) (hr : Room k X.A) : OpW X (binaryOp op) (ownW c sem) := by
  obtain ⟨C, g, fd, ps, F, hps, hmg, hs, hf, hsf, hsub, hb⟩ := hM
  refine ⟨fun x y H Q => ∃ a b dx dy fs gs, x = .ref a ∧ y = .ref b ∧ H a = some (.ins C dx fs) ∧ H b = some (.ins C dy gs) ∧ liftSp X.K X.mg 2 sem [.ref a, .ref b] H Q E0, ?_, ?_⟩
  · intro pins s σ H x y v u Q I rx ry h
    obtain ⟨a, b, dx, dy, fs, gs, rfl, rfl, ha, hb', hq⟩ := h
    cases rx
    cases ry
    obtain ⟨mA, J, _⟩ := ins_get I.hok ha
    obtain ⟨mB, J', _⟩ := ins_get I.hok hb'
    obtain ⟨od, J, _⟩ := J.look
    obtain ⟨od', J', _⟩ := J'.look
    obtain ⟨mf, hF⟩ := I.fr
    refine PySem.W.binop_K hF I.ok.mod.kin J J'.type hsf hs hf ?_
    have r2 : Vals [V.ref a, V.ref b] [Value.ref a, Value.ref b] := .cons rfl (.cons rfl .nil)
    exact wpAny_mono (run_fn (us := [.ref a, .ref b]) (vs := [.ref a, .ref b]) F hr hb .nil pass0 I r2 hq) (fun _ _ z => ep_back z) fun _ _ z => z
  · intro B m S H x y vx vy Q w S' R px py e kk
    unfold ownW at e
    split at e
    · split at e
      · rename_i hc
        rw [Bool.and_eq_true, beq_iff_eq, beq_iff_eq] at hc
        obtain ⟨rfl, rfl⟩ := hc
        have pp : Rps X.K X.mg B m H [_, _] [vx, vy] := .cons px (.cons py .nil)
        have q := callF_ok (E := E0) R pp e kk
        cases px with
        | ins n1 g1 h1 l1 p1 =>
        cases py with
        | ins n2 g2 h2 l2 p2 =>
        rw [hmg] at g1 g2
        cases g1; cases g2
        exact ⟨_, _, _, _, _, _, rfl, rfl, h1, h2, q⟩
      · cases e
    · cases e
/-- the type of a value, for == -/
theorem type_at {B : Addr → Prop} {m : List Addr} {S : Sto} {H : Hp} {x : W} {v : V} {t : String} {pins : List (Addr × Obj)} {σ : L2.St} {s : Shared} {u : Value} (I : Inv X pins σ H s) (ru : RelV v u) (ty : TyX X.K H v (.type t)) : PySem.W.Looks (model X.prog X.w) s.heap (typeOf u) (.type t) := by
  have one : ∀ {a : Addr} {o : Obj}, s.heap.get? a = some o → o.cls = .type t → PySem.W.Looks (model X.prog X.w) s.heap (typeOf (.ref a)) (.type t) := fun {a o} h e => by
    have := PySem.W.Looks.ld (M := model X.prog X.w) (h := s.heap) (part := none) (a := a) h
    have q : PySem.W.Looks (model X.prog X.w) s.heap (typeOf (.ref a)) o.cls := this.andThen .now
    rw [e] at q
    exact q
  generalize ht : Value.type t = tv at ty
  cases ty with
  | base ty =>
    cases ty with
    | non => cases ru; cases ht; exact PySem.W.Looks.of_pure rfl
    | bl _ => cases ru; cases ht; exact PySem.W.Looks.of_pure rfl
    | int _ => obtain ⟨_, rfl⟩ := ru; cases ht; exact PySem.W.Looks.of_pure rfl
    | str _ => obtain ⟨_, rfl⟩ := ru; cases ht; exact PySem.W.Looks.of_pure rfl
    | flt _ => obtain ⟨_, rfl⟩ := ru; cases ht; exact PySem.W.Looks.of_pure rfl
    | @lst a xs e =>
      cases ru; cases ht
      obtain ⟨_, its, n, _, h1⟩ := (show ObjOk X.prog X.w H s.heap a (.lst xs) from I.hok a _ e)
      exact one h1 rfl
    | @frz a ob xs e =>
      cases ru; cases ht
      obtain ⟨_, _, _, n, _, h1⟩ := (show ObjOk X.prog X.w H s.heap a (.frz ob (.lst xs)) from I.hok a _ e)
      exact one h1 rfl
    | @tup a xs e =>
      cases ru; cases ht
      obtain ⟨_, _, _, o, h1, h2, _⟩ := (show ObjOk X.prog X.w H s.heap a (.tup xs) from I.hok a _ e)
      exact one h1 h2
    | @dK a kvs e =>
      cases ru; cases ht
      obtain ⟨_, _, vs, _, o, es, ep, h1, h2, _⟩ := (show ObjOk X.prog X.w H s.heap a (.dK kvs) from I.hok a _ e)
      exact one h1 h2.1
    | @dT a kvs e =>
      cases ru; cases ht
      obtain ⟨_, _, xs, _, o, es, ep, h1, h2, _⟩ := (show ObjOk X.prog X.w H s.heap a (.dT kvs) from I.hok a _ e)
      exact one h1 h2.1
    | ins _ _ _ _ _ _ => cases ht
  | byt _ => obtain ⟨_, rfl⟩ := ru; cases ht; exact PySem.W.Looks.of_pure rfl
  | @set a S n e =>
    cases ru; cases ht
    obtain ⟨o, _, _, _, h1, h2, _⟩ := I.hok a _ e
    exact one h1 h2.1
  | kList e c => cases ru; cases ht; exact one (I.kIn _ _ e) c
  | kTuple e c => cases ru; cases ht; exact one (I.kIn _ _ e) c
  | kDict e c => cases ru; cases ht; exact one (I.kIn _ _ e) c
  | @fTuple a ob xs e =>
    cases ru; cases ht
    obtain ⟨_, _, _, _, o, h1, h2, _⟩ := (show ObjOk X.prog X.w H s.heap a (.frz ob (.tup xs)) from I.hok a _ e)
    exact one h1 h2
  | @fDict a ob kvs e =>
    cases ru; cases ht
    obtain ⟨_, _, _, vs, _, o, es, ep, h1, h2, _⟩ := (show ObjOk X.prog X.w H s.heap a (.frz ob (.dK kvs)) from I.hok a _ e)
    exact one h1 h2.1
@[simp] def eqOwnW (c : String) (sem : CM) (x y : W) (S : Sto) : Option (W × Sto) := match x with
  | .ins c1 n1 w1 => if (c1 == c && ((tyName S y).isSome || clsOf S y == some c)) = true then runF true [false, false] sem [.ins c1 n1 w1, y] S else none
  | _ => none
theorem o_eqOwn {c : String} (hM : Opr X.prog X.w X.K X.mg X.base k c "__eq__" 2 sem) (hr : Room k X.A) : OpW X (compareOp .Eq) (eqOwnW c sem) := by
  obtain ⟨C, g, fd, ps, F, hps, hmg, hs, hf, hsf, hsub, hb⟩ := hM
  refine ⟨fun x y H Q => ∃ a dx fs, x = .ref a ∧ H a = some (.ins C dx fs) ∧ ((∃ t ∈ tyNames, TyX X.K H y (.type t)) ∨ ∃ b dy gs, y = .ref b ∧ H b = some (.ins C dy gs)) ∧ liftSp X.K X.mg 2 sem [.ref a, y] H Q E0, ?_, ?_⟩
  · intro pins s σ H x y v u Q I rx ry h
    obtain ⟨a, dx, fs, rfl, ha, hy, hq⟩ := h
    cases rx
    obtain ⟨mA, J, _⟩ := ins_get I.hok ha
    obtain ⟨od, J, _⟩ := J.look
    obtain ⟨mf, hF⟩ := I.fr
    have r2 : Vals [V.ref a, y] [Value.ref a, u] := .cons rfl (.cons ry .nil)
    have body := wpAny_mono (run_fn (us := [.ref a, u]) (vs := [.ref a, y]) F hr hb .nil pass0 I r2 hq) (fun _ _ z => ep_back z) fun _ _ z => z
    rcases hy with ⟨t, ht, ty⟩ | ⟨b, dy, gs, rfl, hb'⟩
    · exact PySem.W.cmp_K (op := .Eq) (tb := .type t) hr.units0 hF I.ok.mod.kin J (type_at (B := fun _ => False) (m := []) (S := []) (x := .non) I ry ty) (by unfold PySem.W.notFirst; rw [hsub t ht]; simp) hs hf body
    · cases ry
      obtain ⟨mB, J', _⟩ := ins_get I.hok hb'
      obtain ⟨od', J', _⟩ := J'.look
      exact PySem.W.cmp_K (op := .Eq) (tb := .ref C) hr.units0 hF I.ok.mod.kin J J'.type (by simp [PySem.W.notFirst]) hs hf body
  · intro B m S H x y vx vy Q w S' R px py e kk
    unfold eqOwnW at e
    split at e
    · split at e
      · rename_i hc
        rw [Bool.and_eq_true, beq_iff_eq, Bool.or_eq_true] at hc
        obtain ⟨rfl, hc2⟩ := hc
        have pp : Rps X.K X.mg B m H [_, _] [vx, vy] := .cons px (.cons py .nil)
        have q := callF_ok (E := E0) R pp e kk
        cases px with
        | ins n1 g1 h1 l1 p1 =>
        rw [hmg] at g1
        cases g1
        refine ⟨_, _, _, rfl, h1, ?_, q⟩
        rcases hc2 with z | z
        · obtain ⟨t, ht⟩ := Option.isSome_iff_exists.mp z
          obtain ⟨ty, tm⟩ := tyx_at R py ht
          exact .inl ⟨t, tm, ty⟩
        · obtain ⟨b, C', dy, gs, rfl, g2, h2⟩ := cls_at R py (beq_iff_eq.mp z)
          rw [hmg] at g2; cases g2
          exact .inr ⟨b, dy, gs, rfl, h2⟩
      · cases e
    · cases e
def inOwnB (c : String) (sem : CM) (x y : W) (S : Sto) : Option (Bool × Sto) := match y with
  | .ins c1 n1 w1 => if (c1 == c) = true then (runF true [false, false] sem [.ins c1 n1 w1, x] S).bind fun q => match q.1 with
      | .bl b => some (b, q.2)
      | _ => none
    else none
  | _ => none
def inOwnW (c : String) (sem : CM) (x y : W) (S : Sto) : Option (W × Sto) := (inOwnB c sem x y S).bind fun q => some (.bl q.1, q.2)
def notInOwnW (c : String) (sem : CM) (x y : W) (S : Sto) : Option (W × Sto) := (inOwnB c sem x y S).bind fun q => some (.bl (!q.1), q.2)
theorem in_own_ok {c : String} {C : Addr} (hmg : X.mg (Str.ofString c) = some (.ref C)) {B : Addr → Prop} {m : List Addr} {S S' : Sto} {H : Hp} {x y : W} {vx vy : V} {b : Bool} {Q : Bool → Hp → Prop} (R : Rel X.K X.mg B m S H) (px : Rp X.K X.mg B m H x vx) (py : Rp X.K X.mg B m H y vy) (e : inOwnB c sem x y S = some (b, S'))
    (kk : ∀ B' m' H', Stp B m H B' m' H' → Rel X.K X.mg B' m' S' H' → Q b H') : ∃ a dx fs, vy = .ref a ∧ H a = some (.ins C dx fs) ∧ liftSp X.K X.mg 2 sem [.ref a, vx] H (fun v H' => ∃ b, v = .bl b ∧ Q b H') E0 := by
  unfold inOwnB at e
  split at e
  · split at e
    · rename_i hc
      simp only [Option.bind_eq_some_iff] at e
      obtain ⟨⟨v, S1⟩, h1, h2⟩ := e
      simp only at h2
      split at h2
      · cases h2
        have hcc := beq_iff_eq.mp hc
        subst hcc
        have pp : Rps X.K X.mg B m H [_, _] [vy, vx] := .cons py (.cons px .nil)
        have q := callF_ok (E := E0) (Q := fun v H' => ∃ b, v = .bl b ∧ Q b H') R pp h1 fun B' m' H' v st R' p' => by
          cases p'
          exact ⟨_, rfl, kk B' m' H' st R'⟩
        cases py with
        | ins n1 g1 h1 l1 p1 =>
        rw [hmg] at g1
        cases g1
        exact ⟨_, _, _, rfl, h1, q⟩
      · cases h2
    · cases e
  · cases e
theorem o_inOwn {c : String} (hM : Opr X.prog X.w X.K X.mg X.base k c "__contains__" 2 sem) (hr : Room k X.A) : OpW X (compareOp .In) (inOwnW c sem) := by
  obtain ⟨C, g, fd, ps, F, hps, hmg, hs, hf, hsf, hsub, hb⟩ := hM
  refine ⟨fun x y H Q => ∃ a dx fs, y = .ref a ∧ H a = some (.ins C dx fs) ∧ liftSp X.K X.mg 2 sem [.ref a, x] H (fun v H' => ∃ b, v = .bl b ∧ Q (.bl b) H') E0, ?_, ?_⟩
  · intro pins s σ H x y v u Q I rx ry h
    obtain ⟨a, dx, fs, rfl, ha, hq⟩ := h
    cases ry
    obtain ⟨mA, J, _⟩ := ins_get I.hok ha
    obtain ⟨od, J, _⟩ := J.look
    obtain ⟨mf, hF⟩ := I.fr
    have r2 : Vals [V.ref a, x] [Value.ref a, v] := .cons rfl (.cons rx .nil)
    refine PySem.W.in_K hF I.ok.mod.kin J hs hf (wpAny_mono (run_fn (us := [.ref a, v]) (vs := [.ref a, x]) F hr hb .nil pass0 I r2 hq) (fun _ _ z => ?_) fun _ _ z => z)
    obtain ⟨vv, H', I', rv, b, rfl, q⟩ := z
    cases rv
    exact wpAny_truthy_bool ⟨.bl b, H', I', rfl, q⟩
  · intro B m S H x y vx vy Q w S' R px py e kk
    simp only [inOwnW, Option.bind_eq_some_iff] at e
    obtain ⟨⟨b, S1⟩, h1, h2⟩ := e
    cases h2
    exact in_own_ok (Q := fun b H' => Q (.bl b) H') hmg R px py h1 fun B' m' H' st R' => kk B' m' H' _ st R' (.bl _)
theorem o_notInOwn {c : String} (hM : Opr X.prog X.w X.K X.mg X.base k c "__contains__" 2 sem) (hr : Room k X.A) : OpW X (compareOp .NotIn) (notInOwnW c sem) := by
  obtain ⟨C, g, fd, ps, F, hps, hmg, hs, hf, hsf, hsub, hb⟩ := hM
  refine ⟨fun x y H Q => ∃ a dx fs, y = .ref a ∧ H a = some (.ins C dx fs) ∧ liftSp X.K X.mg 2 sem [.ref a, x] H (fun v H' => ∃ b, v = .bl b ∧ Q (.bl (!b)) H') E0, ?_, ?_⟩
  · intro pins s σ H x y v u Q I rx ry h
    obtain ⟨a, dx, fs, rfl, ha, hq⟩ := h
    cases ry
    obtain ⟨mA, J, _⟩ := ins_get I.hok ha
    obtain ⟨od, J, _⟩ := J.look
    obtain ⟨mf, hF⟩ := I.fr
    have r2 : Vals [V.ref a, x] [Value.ref a, v] := .cons rfl (.cons rx .nil)
    refine PySem.W.notIn_K hF I.ok.mod.kin J hs hf (wpAny_mono (run_fn (us := [.ref a, v]) (vs := [.ref a, x]) F hr hb .nil pass0 I r2 hq) (fun _ _ z => ?_) fun _ _ z => z)
    obtain ⟨vv, H', I', rv, b, rfl, q⟩ := z
    cases rv
    exact wpAny_truthy_bool ⟨.bl (!b), H', I', rfl, q⟩
  · intro B m S H x y vx vy Q w S' R px py e kk
    simp only [notInOwnW, Option.bind_eq_some_iff] at e
    obtain ⟨⟨b, S1⟩, h1, h2⟩ := e
    cases h2
    exact in_own_ok (Q := fun b H' => Q (.bl (!b)) H') hmg R px py h1 fun B' m' H' st R' => kk B' m' H' _ st R' (.bl _)
end
end Zw
set_option maxRecDepth 100000
namespace Zw
open PySem L2

/-! ### methods of lists -/
abbrev MM := W → List W → Sto → Option (W × Sto)
@[simp] def isLst (S : Sto) (w : W) : Bool := (seqOf S w).isSome
def mBM (g : MM) (o : EM) (a : AM) (r : Ev) (S : Sto) : Option (W × Sto) := (o r S).bind fun p => if isLst p.2 p.1 = true then (a r p.2).bind fun q => g p.1 q.1 q.2 else none
section
variable {X : Cx} {o e : Expr} {es : List Expr} {mo : EM} {ms : AM} {name : Str} {id : String} {apos cpos : Pos} {g : MM}
theorem isLst_ty {B : Addr → Prop} {m : List Addr} {S : Sto} {H : Hp} {x : W} {v : V} (R : Rel X.K X.mg B m S H) (p : Rp X.K X.mg B m H x v) (h : isLst S x = true) : tyV X.K "list" v H := by
  obtain ⟨ws, hw⟩ := Option.isSome_iff_exists.mp h
  obtain ⟨a, vs, rfl, ha, _⟩ := seq_at R p hw
  exact .inl ⟨rfl, _, ha⟩
theorem w_bm (hm : MtW X id g) (slot : Slot "list" name id) (hty : typeOf (.builtin id) = pure (.type "method_descriptor")) (ho : PEw X o mo) (ha : PAw X (e :: es) ms)
    (hbase : attributeBase o name X.env (eval o X.env) = eval o X.env := by rfl)
    (hfew : ((backTo cpos (starEach (e :: es) X.env)).all (fun x => !x.1) && (backToKw cpos (keywordEach [] X.env)).all (fun x => x.1.isSome)
      && decide ((e :: es).length + ([] : List Keyword).length + (if ([] : List Keyword).isEmpty then 0 else 1) < 30)) = true := by rfl)
    (hline : (apos.endLine == cpos.line) = true := by rfl) (hs : starEach (e :: es) X.env = (false, eval e X.env) :: starEach es X.env := by rfl) (hplain : (backTo cpos (starEach es X.env)).any (·.1) = false := by rfl) :
    PEw X (.Call (.Attribute o name apos) (e :: es) [] cpos) (mBM g mo ms) := by
  obtain ⟨r, hm, rm⟩ := hm
  obtain ⟨to, ho, ro⟩ := ho
  obtain ⟨ta, ha, ra⟩ := ha
  refine ⟨_, pe_bm PySem.F.plainAttrs_list slot hty hm ho ha hbase hfew hline hs hplain, ?_⟩
  intro B m r s S H Q w S' R E h k
  simp only [mBM, Option.bind_eq_some_iff] at h
  obtain ⟨⟨x, S1⟩, h1, h2⟩ := h
  simp only at h2
  split at h2
  · rename_i hl
    simp only [Option.bind_eq_some_iff] at h2
    obtain ⟨⟨ws, S2⟩, h3, h4⟩ := h2
    refine ro B m r s S H _ x S1 R E h1 fun B1 m1 H1 vx s1 R1 p1 => ⟨isLst_ty R1 p1 hl, ?_⟩
    refine ra B1 m1 r s S1 H1 _ ws S2 R1 (E.mono s1 R.inB) h3 fun B2 m2 H2 vs s2 R2 p2 => ?_
    exact rm B2 m2 S2 H2 x vx ws vs Q w S' R2 (p1.mono s2 R1.inB) p2 h4 fun B3 m3 H3 v s3 R3 p3 => k B3 m3 H3 v ((s1.trans s2).trans s3) R3 p3
  · cases h2
theorem w_bm0 (hm : MtW X id g) (slot : Slot "list" name id) (hty : typeOf (.builtin id) = pure (.type "method_descriptor")) (ho : PEw X o mo)
    (hbase : attributeBase o name X.env (eval o X.env) = eval o X.env := by rfl) (hline : (apos.endLine == cpos.line) = true := by rfl) : PEw X (.Call (.Attribute o name apos) [] [] cpos) (mBM g mo mNil) := by
  obtain ⟨r, hm, rm⟩ := hm
  obtain ⟨to, ho, ro⟩ := ho
  refine ⟨_, pe_bm0 PySem.F.plainAttrs_list slot hty hm ho hbase hline, ?_⟩
  intro B m r s S H Q w S' R E h k
  simp only [mBM, mNil, Option.bind_eq_some_iff] at h
  obtain ⟨⟨x, S1⟩, h1, h2⟩ := h
  simp only at h2
  split at h2
  · rename_i hl
    simp only [Option.bind_some] at h2
    refine ro B m r s S H _ x S1 R E h1 fun B1 m1 H1 vx s1 R1 p1 => ⟨isLst_ty R1 p1 hl, ?_⟩
    exact rm B1 m1 S1 H1 x vx [] [] Q w S' R1 p1 .nil h2 fun B3 m3 H3 v s3 R3 p3 => k B3 m3 H3 v (s1.trans s3) R3 p3
  · cases h2
@[simp] def appendW (x : W) (ws : List W) (S : Sto) : Option (W × Sto) := match x, ws with
  | .ref k, [y] => match S[k]? with
    | some (.lst xs) => if xs.length < sizeLine then some (.non, S.set k (.lst (xs ++ [y]))) else none
    | _ => none
  | _, _ => none
theorem m_append : MtW X "list.append" appendW := by
  refine ⟨_, mt_append, ?_⟩
  intro B m S H x vx ws vs Q w S' R px ps e k
  unfold appendW at e
  split at e
  · split at e
    · rename_i xs hs
      split at e
      · rename_i hl
        cases e
        cases ps with
        | cons py pn =>
        cases pn
        cases px with
        | ref hk =>
        obtain ⟨a, h1, vs, h2, h3⟩ := R.at hs
        rw [hk] at h1; cases h1
        exact ⟨_, _, _, rfl, rfl, h2, by rw [← h3.length]; exact hl, k B m _ _ (Stp.write R hk _) (R.write hk ⟨_, upd_same, (h3.snoc py).mono (Stp.write R hk _) R.inB⟩) .non⟩
      · cases e
    · cases e
  · cases e
@[simp] def extendW (x : W) (ws : List W) (S : Sto) : Option (W × Sto) := match x, ws with
  | .ref k, [y] => match S[k]? with
    | some (.lst xs) => match lstOf S y with
      | some ys => if xs.length + ys.length ≤ sizeLine then some (.non, S.set k (.lst (xs ++ ys))) else none
      | none => none
    | _ => none
  | _, _ => none
theorem m_extend : MtW X "list.extend" extendW := by
  refine ⟨_, mt_extend, ?_⟩
  intro B m S H x vx ws vs Q w S' R px ps e k
  unfold extendW at e
  split at e
  · split at e
    · rename_i xs hs
      split at e
      · rename_i ys hy
        split at e
        · rename_i hl
          cases e
          cases ps with
          | cons py pn =>
          cases pn
          cases px with
          | ref hk =>
          obtain ⟨a, h1, vs, h2, h3⟩ := R.at hs
          rw [hk] at h1; cases h1
          obtain ⟨b, us, rfl, hb, pu⟩ := lst_at R py hy
          exact ⟨_, _, _, _, rfl, rfl, h2, hb, by rw [← h3.length, ← pu.length]; exact hl, k B m _ _ (Stp.write R hk _) (R.write hk ⟨_, upd_same, (h3.append pu).mono (Stp.write R hk _) R.inB⟩) .non⟩
        · cases e
      · cases e
    · cases e
  · cases e
@[simp] def popW (x : W) (ws : List W) (S : Sto) : Option (W × Sto) := match x, ws with
  | .ref k, [] => match S[k]? with
    | some (.lst xs) => (xs[xs.length - 1]?).map fun y => (y, S.set k (.lst xs.dropLast))
    | _ => none
  | .ref k, [.int i] => match S[k]? with
    | some (.lst xs) => if -(2 ^ 63) ≤ i ∧ i < 2 ^ 63 then (seqIndex? i xs.length).bind fun j => (xs[j]?).map fun y => (y, S.set k (.lst (xs.eraseIdx j))) else none
    | _ => none
  | _, _ => none
theorem m_pop : MtW X "list.pop" popW := by
  refine ⟨_, MtR.or (X := X) mt_pop mt_popAt, ?_⟩
  intro B m S H x vx ws vs Q w S' R px ps e k
  unfold popW at e
  split at e
  · split at e
    · rename_i xs hs
      simp only [Option.map_eq_some_iff] at e
      obtain ⟨y, hy, e⟩ := e
      cases e
      cases ps
      cases px with
      | ref hk =>
      obtain ⟨a, h1, vs, h2, h3⟩ := R.at hs
      rw [hk] at h1; cases h1
      rw [h3.length] at hy
      obtain ⟨v, hv, pv⟩ := h3.get hy
      exact .inl ⟨_, _, v, rfl, rfl, h2, hv, k B m _ _ (Stp.write R hk _) (R.write hk ⟨_, upd_same, h3.dropLast.mono (Stp.write R hk _) R.inB⟩) (pv.mono (Stp.write R hk _) R.inB)⟩
    · cases e
  · split at e
    · rename_i xs hs
      split at e
      · rename_i hb
        simp only [Option.bind_eq_some_iff, Option.map_eq_some_iff] at e
        obtain ⟨j, hj, y, hy, e⟩ := e
        cases e
        cases ps with
        | cons pi pn =>
        cases pn; cases pi
        cases px with
        | ref hk =>
        obtain ⟨a, h1, vs, h2, h3⟩ := R.at hs
        rw [hk] at h1; cases h1
        rw [h3.length] at hj
        obtain ⟨v, hv, pv⟩ := h3.get hy
        exact .inr ⟨_, _, _, j, v, rfl, rfl, h2, hb.1, hb.2, hj, hv, k B m _ _ (Stp.write R hk _) (R.write hk ⟨_, upd_same, (h3.eraseIdx j).mono (Stp.write R hk _) R.inB⟩) (pv.mono (Stp.write R hk _) R.inB)⟩
      · cases e
    · cases e
  · cases e
end

/-! ### dicts with keys ints and texts -/
@[simp] def keyW : W → Option Key
  | .int i => some (.inl i)
  | .str x => some (.inr x)
  | _ => none
def wK : Key → W
  | .inl i => .int i
  | .inr x => .str x
@[simp] def getK (kvs : List (Key × W)) (k : Key) : Option W := (kvs.find? fun kv => decide (kv.1 = k)).map (·.2)
@[simp] def setK (kvs : List (Key × W)) (k : Key) (v : W) : List (Key × W) :=
  if (kvs.any fun kv => decide (kv.1 = k)) = true then kvs.map (fun kv => if kv.1 = k then (kv.1, v) else kv) else kvs ++ [(k, v)]
abbrev KvR (K : PySem.W.Frag) (mg : Str → Option Value) (B : Addr → Prop) (m : List Addr) (H : Hp) : List (Key × W) → List (Key × V) → Prop := Paired fun p q => p.1 = q.1 ∧ Rp K mg B m H p.2 q.2
section
variable {K : PySem.W.Frag} {mg : Str → Option Value} {B : Addr → Prop} {m : List Addr} {S : Sto} {H : Hp}
theorem keyW_rp {w : W} {v : V} {k : Key} (p : Rp K mg B m H w v) (h : keyW w = some k) : v = kV k := by
  cases p <;> simp only [keyW, Option.some.injEq, reduceCtorEq] at h <;> subst h <;> rfl
theorem getK_rp {k : Key} : ∀ {kvs : List (Key × W)} {vs : List (Key × V)}, KvR K mg B m H kvs vs → (∀ w, getK kvs k = some w → ∃ v, valV vs k = some v ∧ Rp K mg B m H w v) ∧ (getK kvs k = none → valV vs k = none)
  | _, _, .nil => ⟨fun w e => by simp [getK] at e, fun _ => rfl⟩
  | _, _, .cons (a := a) (b := b) r t => by
    obtain ⟨i1, i2⟩ := getK_rp (k := k) t
    obtain ⟨r1, r2⟩ := r
    by_cases e : a.1 = k
    · have e2 : b.1 = k := r1 ▸ e
      refine ⟨fun w h => ?_, fun h => ?_⟩
      · simp only [getK, List.find?_cons, e, decide_true, Option.map_some, Option.some.injEq] at h
        subst h
        exact ⟨b.2, valV_pos e2, r2⟩
      · simp [getK, List.find?_cons, e] at h
    · have e2 : ¬ b.1 = k := r1 ▸ e
      refine ⟨fun w h => ?_, fun h => ?_⟩
      · rw [valV_neg e2]
        exact i1 w (by simpa [getK, List.find?_cons, e] using h)
      · rw [valV_neg e2]
        exact i2 (by simpa [getK, List.find?_cons, e] using h)
theorem anyK_rp {k : Key} : ∀ {kvs : List (Key × W)} {vs : List (Key × V)}, KvR K mg B m H kvs vs → (kvs.any fun kv => decide (kv.1 = k)) = vs.any fun kv => decide (kv.1 = k)
  | _, _, .nil => rfl
  | _, _, .cons r t => by rw [List.any_cons, List.any_cons, anyK_rp t, r.1]
theorem mapK_rp {k : Key} {w : W} {v : V} (p : Rp K mg B m H w v) : ∀ {kvs : List (Key × W)} {vs : List (Key × V)}, KvR K mg B m H kvs vs → KvR K mg B m H (kvs.map fun kv => if kv.1 = k then (kv.1, w) else kv) (vs.map fun kv => if kv.1 = k then (kv.1, v) else kv)
  | _, _, .nil => .nil
  | _, _, .cons (a := a) (b := b) r t => by
    simp only [List.map_cons]
    refine .cons ?_ (mapK_rp p t)
    by_cases e : a.1 = k
    · rw [if_pos e, if_pos (r.1 ▸ e)]; exact ⟨r.1, p⟩
    · rw [if_neg e, if_neg (r.1 ▸ e)]; exact r
theorem KvR.append : ∀ {l1 l2 : List (Key × W)} {v1 v2 : List (Key × V)}, KvR K mg B m H l1 v1 → KvR K mg B m H l2 v2 → KvR K mg B m H (l1 ++ l2) (v1 ++ v2)
  | _, _, _, _, .nil, h => h
  | _, _, _, _, .cons r t, h => .cons r (KvR.append t h)
theorem setK_rp {k : Key} {w : W} {v : V} (p : Rp K mg B m H w v) {kvs : List (Key × W)} {vs : List (Key × V)} (h : KvR K mg B m H kvs vs) : KvR K mg B m H (setK kvs k w) (putK vs k v) := by
  unfold setK putK
  rw [anyK_rp h]
  split
  · exact mapK_rp p h
  · exact KvR.append h (.cons ⟨rfl, p⟩ .nil)
end
@[simp] def dctOf (S : Sto) : W → Option (List (Key × W))
  | .ref k => match S[k]? with
    | some (.dK kvs) => some kvs
    | _ => none
  | _ => none
section
variable {X : Cx} {o i e f value : Expr} {mo mi me mf mv : EM} {pos pos' apos cpos : Pos}
theorem dct_at {B : Addr → Prop} {m : List Addr} {S : Sto} {H : Hp} {x : W} {v : V} {kvs : List (Key × W)} (R : Rel X.K X.mg B m S H) (p : Rp X.K X.mg B m H x v) (h : dctOf S x = some kvs) : ∃ k a vs, x = .ref k ∧ v = .ref a ∧ m[k]? = some a ∧ H a = some (.dK vs) ∧ KvR X.K X.mg B m H kvs vs := by
  cases p with
  | ref hk =>
    simp only [dctOf] at h
    split at h
    · rename_i ws hs
      cases h
      obtain ⟨a', h1, vs, h2, h3⟩ := R.at hs
      rw [hk] at h1; cases h1
      exact ⟨_, _, vs, rfl, rfl, hk, h2, h3⟩
    · cases h
  | _ => simp [dctOf] at h
def mDNew (_ : Ev) (S : Sto) : Option (W × Sto) := some (.ref S.length, S ++ [.dK []])
theorem w_dnew : PEw X (.Dict [] [] pos) mDNew := by
  refine ⟨_, pe_dnewK, ?_⟩
  intro B m r s S H Q w S' R E h k p hp
  cases h
  exact k _ _ _ _ (Stp.alloc R hp _) (R.alloc hp (ob := .dK []) ⟨[], upd_same, .nil⟩) (.ref R.newAt)
def dgetW (x y : W) (S : Sto) : Option (W × Sto) := (dctOf S x).bind fun kvs => (keyW y).bind fun k => (getK kvs k).map fun w => (w, S)
theorem w_dget (hu : X.A.units + 1 < cLine) (ho : PEw X o mo) (hi : PEw X i mi) (hs : NoSl i := by exact fun _ _ => rfl) : PEw X (.Subscript o i pos) (mOp dgetW mo mi) := by
  obtain ⟨to, ho, ro⟩ := ho
  obtain ⟨ti, hi, ri⟩ := hi
  refine ⟨_, pe_dget hu ho hi hs, ?_⟩
  intro B m r s S H Q w S' R E h k
  simp only [mOp, dgetW, Option.bind_eq_some_iff, Option.map_eq_some_iff] at h
  obtain ⟨⟨x, S1⟩, h1, ⟨y, S2⟩, h2, kvs, h3, kk, h4, w2, h5, h6⟩ := h
  cases h6
  refine ro B m r s S H _ x S1 R E h1 fun B1 m1 H1 vx s1 R1 p1 => ?_
  refine ri B1 m1 r s S1 H1 _ y _ R1 (E.mono s1 R.inB) h2 fun B2 m2 H2 vy s2 R2 p2 => ?_
  obtain ⟨j, a, vs, _, rfl, _, ha, hv⟩ := dct_at R2 (p1.mono s2 R1.inB) h3
  have e := keyW_rp p2 h4
  subst e
  obtain ⟨v, hv2, pv⟩ := (getK_rp hv).1 _ h5
  refine ⟨a, v, rfl, ?_, k B2 m2 H2 v (s1.trans s2) R2 pv⟩
  rw [← hv2]
  exact DGet.k ha
def mDIn (neg : Bool) (mi mo : EM) (r : Ev) (S : Sto) : Option (W × Sto) := (mi r S).bind fun p => (mo r p.2).bind fun q => (dctOf q.2 q.1).bind fun kvs => (keyW p.1).bind fun k => some (.bl (if neg = true then !(getK kvs k).isSome else (getK kvs k).isSome), q.2)
theorem getK_some {B : Addr → Prop} {m : List Addr} {H : Hp} {kvs : List (Key × W)} {vs : List (Key × V)} {k : Key} (h : KvR X.K X.mg B m H kvs vs) : (valV vs k).isSome = (getK kvs k).isSome := by
  obtain ⟨h1, h2⟩ := getK_rp (k := k) h
  cases e : getK kvs k with
  | none => rw [h2 e]; rfl
  | some w =>
    obtain ⟨v, hv, _⟩ := h1 w e
    rw [hv]; rfl
theorem din_ok (neg : Bool) {ti to : TE} (ri : RE X ti mi) (ro : RE X to mo) {B : Addr → Prop} {m : List Addr} {r : Ev} {s : L2.St} {S S' : Sto} {H : Hp} {b : W} {Q : Bool → Hp → Prop} (R : Rel X.K X.mg B m S H) (E : EvR X.K X.mg B m H r s) (h : mDIn neg mi mo r S = some (b, S'))
    (k : ∀ B' m' H' c, b = .bl c → Stp B m H B' m' H' → Rel X.K X.mg B' m' S' H' → Q c H') : ti s H fun y H1 => to s H1 fun x H2 => ∃ a o, x = .ref a ∧ DGet H2 a y o ∧ Q (if neg = true then !o.isSome else o.isSome) H2 := by
  simp only [mDIn, Option.bind_eq_some_iff] at h
  obtain ⟨⟨y, S1⟩, h1, ⟨x, S2⟩, h2, kvs, h3, kk, h4, h5⟩ := h
  cases h5
  refine ri B m r s S H _ y S1 R E h1 fun B1 m1 H1 vy s1 R1 p1 => ?_
  refine ro B1 m1 r s S1 H1 _ x _ R1 (E.mono s1 R.inB) h2 fun B2 m2 H2 vx s2 R2 p2 => ?_
  obtain ⟨j, a, vs, _, rfl, _, ha, hv⟩ := dct_at R2 p2 h3
  have e := keyW_rp (p1.mono s2 R1.inB) h4
  subst e
  refine ⟨a, _, rfl, DGet.k ha, ?_⟩
  rw [getK_some hv]
  exact k B2 m2 H2 _ rfl (s1.trans s2) R2
theorem w_din (hu : X.A.units + 1 < cLine) (hi : PEw X i mi) (ho : PEw X o mo) (hm : behindInMarks .In o = false := by rfl) : PEw X (.Compare i [.In] [o] pos) (mDIn false mi mo) := by
  obtain ⟨to, ho, ro⟩ := ho
  obtain ⟨ti, hi, ri⟩ := hi
  refine ⟨_, pe_cmp (pc_din hu hi ho) hm, ?_⟩
  intro B m r s S H Q w S' R E h k
  exact din_ok (Q := fun c H' => Q (.bl c) H') false ri ro R E h fun B' m' H' c e st R' => k B' m' H' _ st R' (by subst e; exact .bl c)
theorem w_dnotin (hu : X.A.units + 1 < cLine) (hi : PEw X i mi) (ho : PEw X o mo) (hm : behindInMarks .NotIn o = false := by rfl) : PEw X (.Compare i [.NotIn] [o] pos) (mDIn true mi mo) := by
  obtain ⟨to, ho, ro⟩ := ho
  obtain ⟨ti, hi, ri⟩ := hi
  refine ⟨_, pe_cmp (pc_dnotin hu hi ho) hm, ?_⟩
  intro B m r s S H Q w S' R E h k
  exact din_ok (Q := fun c H' => Q (.bl c) H') true ri ro R E h fun B' m' H' c e st R' => k B' m' H' _ st R' (by subst e; exact .bl c)
theorem mDIn_bl {neg : Bool} {r : Ev} {S S' : Sto} {b : W} (h : mDIn neg mi mo r S = some (b, S')) : ∃ c, b = .bl c := by
  simp only [mDIn, Option.bind_eq_some_iff] at h
  obtain ⟨_, _, _, _, _, _, _, _, h5⟩ := h
  cases h5
  exact ⟨_, rfl⟩
theorem wt_din (hu : X.A.units + 1 < cLine) (hi : PEw X i mi) (ho : PEw X o mo) (hm : behindInMarks .In o = false := by rfl) : PTw X (.Compare i [.In] [o] pos) (mB (mDIn false mi mo)) := by
  obtain ⟨to, ho, ro⟩ := ho
  obtain ⟨ti, hi, ri⟩ := hi
  refine ⟨_, pt_cmp (pc_din hu hi ho) hm, ?_⟩
  intro B m r s S H Q w S' R E h k
  simp only [mB, Option.bind_eq_some_iff] at h
  obtain ⟨⟨b, S1⟩, h1, h2⟩ := h
  obtain ⟨c, rfl⟩ := mDIn_bl h1
  cases h2
  exact din_ok (Q := fun c H' => ∃ d, V.bl c = .bl d ∧ Q d H') false ri ro R E h1 fun B' m' H' c e st R' => by cases e; exact ⟨_, rfl, k B' m' H' st R'⟩
theorem wt_dnotin (hu : X.A.units + 1 < cLine) (hi : PEw X i mi) (ho : PEw X o mo) (hm : behindInMarks .NotIn o = false := by rfl) : PTw X (.Compare i [.NotIn] [o] pos) (mB (mDIn true mi mo)) := by
  obtain ⟨to, ho, ro⟩ := ho
  obtain ⟨ti, hi, ri⟩ := hi
  refine ⟨_, pt_cmp (pc_dnotin hu hi ho) hm, ?_⟩
  intro B m r s S H Q w S' R E h k
  simp only [mB, Option.bind_eq_some_iff] at h
  obtain ⟨⟨b, S1⟩, h1, h2⟩ := h
  obtain ⟨c, rfl⟩ := mDIn_bl h1
  cases h2
  exact din_ok (Q := fun c H' => ∃ d, V.bl c = .bl d ∧ Q d H') true ri ro R E h1 fun B' m' H' c e st R' => by cases e; exact ⟨_, rfl, k B' m' H' st R'⟩
def mDPut (mo mi mv : EM) (r : Ev) (S : Sto) : Option (Fl × Ev × Sto) := (mv r S).bind fun p => (mo r p.2).bind fun q => (mi r q.2).bind fun z => match q.1 with
  | .ref j => match z.2[j]? with
    | some (.dK kvs) => (keyW z.1).bind fun k => if kvs.length < sizeLine then some (.nx, r, z.2.set j (.dK (setK kvs k p.1))) else none
    | _ => none
  | _ => none
theorem ws_dput (hu : X.A.units + 1 < cLine) (ho : PEw X o mo) (hi : PEw X i mi) (hv : PEw X value mv) (hs : swapsWith value (some (.Subscript o i pos')) pos.line X.env = pure false := by rfl) : PSw X (.Assign [.Subscript o i pos'] value pos) (mDPut mo mi mv) := by
  obtain ⟨to, ho, ro⟩ := ho
  obtain ⟨ti, hi, ri⟩ := hi
  obtain ⟨tv, hv, rv⟩ := hv
  refine ⟨_, ps_dput hu ho hi hv hs, ?_⟩
  intro B m r s S H D f r' S' R E h k
  simp only [mDPut, Option.bind_eq_some_iff] at h
  obtain ⟨⟨v, S1⟩, h1, ⟨x, S2⟩, h2, ⟨y, S3⟩, h3, h4⟩ := h
  simp only at h4
  split at h4
  · split at h4
    · rename_i kvs hs
      simp only [Option.bind_eq_some_iff] at h4
      obtain ⟨kk, h5, h6⟩ := h4
      split at h6
      · rename_i hl
        cases h6
        refine rv B m r s S H _ v S1 R E h1 fun B1 m1 H1 vv s1 R1 p1 => ?_
        refine ro B1 m1 r s S1 H1 _ _ S2 R1 (E.mono s1 R.inB) h2 fun B2 m2 H2 vx s2 R2 p2 => ?_
        refine ri B2 m2 r s S2 H2 _ y S3 R2 ((E.mono s1 R.inB).mono s2 R1.inB) h3 fun B3 m3 H3 vy s3 R3 p3 => ?_
        have px := p2.mono s3 R2.inB
        cases px with
        | ref hk =>
        obtain ⟨a, h7, vs, h8, h9⟩ := R3.at hs
        rw [hk] at h7; cases h7
        have e := keyW_rp p3 h5
        subst e
        refine ⟨_, _, rfl, DPut.k h8 (by rw [← Paired.length h9]; exact hl), ?_⟩
        have st := Stp.write R3 hk (.dK (putK vs kk vv))
        refine k B3 m3 _ s (((s1.trans s2).trans s3).trans st) (R3.write hk ⟨_, upd_same, ?_⟩) ((((E.mono s1 R.inB).mono s2 R1.inB).mono s3 R2.inB).mono st R3.inB)
        exact Paired.mapP (setK_rp ((p1.mono s2 R1.inB).mono s3 R2.inB) h9) fun _ _ q => ⟨q.1, q.2.mono st R3.inB⟩
      · cases h6
    · cases h4
  · cases h4
/-- d.get(k), d.get(k, x) -/
def mGet1 (mo mi : EM) (r : Ev) (S : Sto) : Option (W × Sto) := (mo r S).bind fun p => if (dctOf p.2 p.1).isSome = true then (mi r p.2).bind fun q => (dctOf q.2 p.1).bind fun kvs => (keyW q.1).bind fun k => some ((getK kvs k).getD .non, q.2) else none
def mGet2 (mo mi mx : EM) (r : Ev) (S : Sto) : Option (W × Sto) := (mo r S).bind fun p => if (dctOf p.2 p.1).isSome = true then (mi r p.2).bind fun q => (mx r q.2).bind fun z => (dctOf z.2 p.1).bind fun kvs => (keyW q.1).bind fun k => some ((getK kvs k).getD z.1, z.2) else none
theorem w_get1 (hu : X.A.units + 1 < cLine) (ho : PEw X o mo) (he : PEw X e me) (m : M1 X o "get" apos e cpos := by exact ⟨rfl, rfl, rfl, rfl⟩) : PEw X (.Call (.Attribute o "get" apos) [e] [] cpos) (mGet1 mo me) := by
  obtain ⟨to, ho, ro⟩ := ho
  obtain ⟨te, he, re⟩ := he
  refine ⟨_, pe_dget1 hu ho he m, ?_⟩
  intro B m r s S H Q w S' R E h k
  simp only [mGet1, Option.bind_eq_some_iff] at h
  obtain ⟨⟨x, S1⟩, h1, h2⟩ := h
  simp only at h2
  split at h2
  · rename_i hd
    simp only [Option.bind_eq_some_iff] at h2
    obtain ⟨⟨y, S2⟩, h3, kvs, h4, kk, h5, h6⟩ := h2
    cases h6
    refine ro B m r s S H _ x S1 R E h1 fun B1 m1 H1 vx s1 R1 p1 => ?_
    obtain ⟨kvs0, hd⟩ := Option.isSome_iff_exists.mp hd
    obtain ⟨j, a, vs0, rfl, rfl, hj, ha0, _⟩ := dct_at R1 p1 hd
    refine ⟨a, rfl, .inl ⟨_, .inl ha0⟩, re B1 m1 r s S1 H1 _ y _ R1 (E.mono s1 R.inB) h3 fun B2 m2 H2 vy s2 R2 p2 => ?_⟩
    obtain ⟨j2, a2, vs, e1, e2, _, ha, hv⟩ := dct_at R2 (p1.mono s2 R1.inB) h4
    cases e2
    have e := keyW_rp p2 h5
    subst e
    refine ⟨_, DGet.k ha, ?_⟩
    obtain ⟨g1, g2⟩ := getK_rp (k := kk) hv
    cases q : getK kvs kk with
    | none => rw [g2 q]; rw [q] at k; exact k B2 m2 H2 _ (s1.trans s2) R2 .non
    | some w =>
      obtain ⟨v, hv2, pv⟩ := g1 w q
      rw [hv2]; rw [q] at k
      exact k B2 m2 H2 v (s1.trans s2) R2 pv
  · cases h2
theorem w_get2 (hu : X.A.units + 1 < cLine) (ho : PEw X o mo) (he : PEw X e me) (hf : PEw X f mf) (m : M2 X o "get" apos e f cpos := by exact ⟨rfl, rfl, rfl, rfl⟩) : PEw X (.Call (.Attribute o "get" apos) [e, f] [] cpos) (mGet2 mo me mf) := by
  obtain ⟨to, ho, ro⟩ := ho
  obtain ⟨te, he, re⟩ := he
  obtain ⟨tf, hf, rf⟩ := hf
  refine ⟨_, pe_dget2 hu ho he hf m, ?_⟩
  intro B m r s S H Q w S' R E h k
  simp only [mGet2, Option.bind_eq_some_iff] at h
  obtain ⟨⟨x, S1⟩, h1, h2⟩ := h
  simp only at h2
  split at h2
  · rename_i hd
    simp only [Option.bind_eq_some_iff] at h2
    obtain ⟨⟨y, S2⟩, h3, ⟨z, S3⟩, h3', kvs, h4, kk, h5, h6⟩ := h2
    cases h6
    refine ro B m r s S H _ x S1 R E h1 fun B1 m1 H1 vx s1 R1 p1 => ?_
    obtain ⟨kvs0, hd⟩ := Option.isSome_iff_exists.mp hd
    obtain ⟨j, a, vs0, rfl, rfl, hj, ha0, _⟩ := dct_at R1 p1 hd
    refine ⟨a, rfl, .inl ⟨_, .inl ha0⟩, re B1 m1 r s S1 H1 _ y _ R1 (E.mono s1 R.inB) h3 fun B2 m2 H2 vy s2 R2 p2 => ?_⟩
    refine rf B2 m2 r s S2 H2 _ z _ R2 ((E.mono s1 R.inB).mono s2 R1.inB) h3' fun B3 m3 H3 vz s3 R3 p3 => ?_
    obtain ⟨j2, a2, vs, e1, e2, _, ha, hv⟩ := dct_at R3 ((p1.mono s2 R1.inB).mono s3 R2.inB) h4
    cases e2
    have e := keyW_rp (p2.mono s3 R2.inB) h5
    subst e
    refine ⟨_, DGet.k ha, ?_⟩
    obtain ⟨g1, g2⟩ := getK_rp (k := kk) hv
    have st := (s1.trans s2).trans s3
    cases q : getK kvs kk with
    | none => rw [g2 q]; rw [q] at k; exact k B3 m3 H3 _ st R3 p3
    | some w =>
      obtain ⟨v, hv2, pv⟩ := g1 w q
      rw [hv2]; rw [q] at k
      exact k B3 m3 H3 v st R3 pv
  · cases h2
/-! ### {k: v, ..} -/
def mPairs : List (EM × EM) → Ev → Sto → Option (List (Key × W) × Sto)
  | [], _, S => some ([], S)
  | (a, b) :: l, r, S => (a r S).bind fun p => (keyW p.1).bind fun k => (b r p.2).bind fun q => (mPairs l r q.2).bind fun z => some ((k, q.1) :: z.1, z.2)
def mDisp (l : List (EM × EM)) : EM := fun r S => (mPairs l r S).bind fun p => if p.1.length ≤ 15 then some (.ref p.2.length, p.2 ++ [.dK (p.1.foldl (fun acc kv => setK acc kv.1 kv.2) [])]) else none
structure PPw (X : Cx) (pos : Pos) (keys : List (Option Expr)) (values : List Expr) (l : List (EM × EM)) : Prop where
  ex : ∃ trs, PPs X pos keys values trs ∧ ∀ B m r s S H (Q : List (V × V) → Hp → Prop) ps S', Rel X.K X.mg B m S H → EvR X.K X.mg B m H r s → mPairs l r S = some (ps, S') →
    (∀ B' m' H' (vs : List (Key × V)), Stp B m H B' m' H' → Rel X.K X.mg B' m' S' H' → KvR X.K X.mg B' m' H' ps vs → Q (vs.map fun kv => (kV kv.1, kv.2)) H') → tPairs trs s H Q
theorem wp_nil : PPw X pos [] [] [] := ⟨[], pps_nil, fun B m r s S H Q ps S' R E h k => by
  cases h
  exact k B m H [] .refl R .nil⟩
theorem wp_cons {k v : Expr} {ks : List (Option Expr)} {vs : List Expr} {mk mv : EM} {l : List (EM × EM)} (hk : PEw X k mk) (hv : PEw X v mv) (hr : PPw X pos ks vs l) : PPw X pos (some k :: ks) (v :: vs) ((mk, mv) :: l) := by
  obtain ⟨tk, hk, rk⟩ := hk
  obtain ⟨tv, hv, rv⟩ := hv
  obtain ⟨trs, hr, rr⟩ := hr
  refine ⟨(tk, tv) :: trs, pps_cons hk hv hr, ?_⟩
  intro B m r s S H Q ps S' R E h kk
  simp only [mPairs, Option.bind_eq_some_iff] at h
  obtain ⟨⟨x, S1⟩, h1, k0, h0, ⟨y, S2⟩, h2, ⟨z, S3⟩, h3, h4⟩ := h
  cases h4
  refine rk B m r s S H _ x S1 R E h1 fun B1 m1 H1 vx s1 R1 p1 => ?_
  refine rv B1 m1 r s S1 H1 _ y S2 R1 (E.mono s1 R.inB) h2 fun B2 m2 H2 vy s2 R2 p2 => ?_
  refine rr B2 m2 r s S2 H2 _ z _ R2 ((E.mono s1 R.inB).mono s2 R1.inB) h3 fun B3 m3 H3 us s3 R3 p3 => ?_
  have e := keyW_rp p1 h0
  subst e
  exact kk B3 m3 H3 ((k0, vy) :: us) ((s1.trans s2).trans s3) R3 (.cons ⟨rfl, p2.mono s3 R2.inB⟩ p3)
theorem w_disp {keys : List (Option Expr)} {values : List Expr} {l : List (EM × EM)} (h : PPw X pos keys values l) (hall : keys.all (·.isSome) = true := by rfl) (hl : keys.length = values.length := by rfl) (h0 : keys ≠ [] := by simp) (h15 : keys.length ≤ 15 := by decide) : PEw X (.Dict keys values pos) (mDisp l) := by
  obtain ⟨trs, h, rh⟩ := h
  refine ⟨_, pe_disp h hall hl h0 h15, ?_⟩
  intro B m r s S H Q w S' R E e k p hp
  simp only [mDisp, Option.bind_eq_some_iff] at e
  obtain ⟨⟨ps, S1⟩, h1, h2⟩ := e
  simp only at h2
  split at h2
  · rename_i hlen
    cases h2
    have st0 : Stp B m H (fun a => B a ∨ a = p) m (upd H p (.dK [])) := Stp.prot hp
    refine rh _ m r s S _ _ ps S1 (R.prot hp) (E.mono st0 R.inB) h1 fun B2 m2 H2 vs s2 R2 p2 => ?_
    obtain ⟨bD, nD, eD⟩ := s2.carry (.inr rfl) (fun z => R.none_of hp (R.inB p z)) upd_same
    refine ⟨eD, vs, rfl, by rw [← Paired.length p2]; exact hlen, ?_⟩
    have merge : ∀ {l1 : List (Key × W)} {v1 : List (Key × V)}, KvR X.K X.mg B2 m2 H2 l1 v1 → ∀ {a1 : List (Key × W)} {b1 : List (Key × V)}, KvR X.K X.mg B2 m2 H2 a1 b1 → KvR X.K X.mg B2 m2 H2 (l1.foldl (fun acc kv => setK acc kv.1 kv.2) a1) (mergeK b1 v1) := by
      intro l1 v1 h
      induction h with
      | nil => intro a1 b1 h1; exact h1
      | @cons pa pb l1 l2 r t ih =>
        intro a1 b1 h1
        have q := setK_rp (k := pb.1) r.2 h1
        have q2 := ih q
        rw [List.foldl_cons, r.1]
        exact q2
    have hm := merge p2 (KvR.append (K := X.K) (mg := X.mg) (B := B2) (m := m2) (H := H2) .nil .nil)
    have stF : Stp B m H B2 m2 (upd H2 p (.dK (mergeK [] vs))) := (st0.trans s2).off hp
    have RF : Rel X.K X.mg B2 m2 S1 (upd H2 p (.dK (mergeK [] vs))) := R2.off bD nD
    -- the dict joins the store
    obtain ⟨nw, ep, fp⟩ := stF.pre
    have grow : ∀ {w : W} {v : V}, Rp X.K X.mg B2 m2 (upd H2 p (.dK (mergeK [] vs))) w v → Rp X.K X.mg B2 (m2 ++ [p]) (upd H2 p (.dK (mergeK [] vs))) w v := fun {w v} q =>
      Rp.rec (motive_1 := fun w v _ => Rp X.K X.mg B2 (m2 ++ [p]) _ w v) (motive_2 := fun ws vs _ => Rps X.K X.mg B2 (m2 ++ [p]) _ ws vs)
        .non (fun b => .bl b) (fun b => .int b) (fun b => .str b) (fun f _ ih => .tup f ih) (fun n f _ ih => .lst n f ih) (fun f _ ih => .lsr f ih) (fun n g h l _ ih => .ins n g h l ih) (fun g => .glo g) (fun g => .ty g)
        (fun h => .ref (by rw [List.getElem?_append_left (List.getElem?_eq_some_iff.mp h).1]; exact h)) .nil (fun _ _ i1 i2 => .cons i1 i2) q
    have grows : ∀ {ws : List W} {us : List V}, Rps X.K X.mg B2 m2 (upd H2 p (.dK (mergeK [] vs))) ws us → Rps X.K X.mg B2 (m2 ++ [p]) (upd H2 p (.dK (mergeK [] vs))) ws us := fun {ws us} q =>
      Rps.rec (motive_1 := fun w v _ => Rp X.K X.mg B2 (m2 ++ [p]) _ w v) (motive_2 := fun ws vs _ => Rps X.K X.mg B2 (m2 ++ [p]) _ ws vs)
        .non (fun b => .bl b) (fun b => .int b) (fun b => .str b) (fun f _ ih => .tup f ih) (fun n f _ ih => .lst n f ih) (fun f _ ih => .lsr f ih) (fun n g h l _ ih => .ins n g h l ih) (fun g => .glo g) (fun g => .ty g)
        (fun h => .ref (by rw [List.getElem?_append_left (List.getElem?_eq_some_iff.mp h).1]; exact h)) .nil (fun _ _ i1 i2 => .cons i1 i2) q
    have orm : ∀ {a : Addr} {o : Ob}, OR X.K X.mg B2 m2 (upd H2 p (.dK (mergeK [] vs))) a o → OR X.K X.mg B2 (m2 ++ [p]) (upd H2 p (.dK (mergeK [] vs))) a o := by
      intro a o h
      cases o with
      | lst ws => obtain ⟨vs, h1, h2⟩ := h; exact ⟨vs, h1, grows h2⟩
      | dK kvs => obtain ⟨vs, h1, h2⟩ := h; exact ⟨vs, h1, Paired.mapP h2 fun _ _ q => ⟨q.1, grow q.2⟩⟩
      | dT kvs => obtain ⟨vs, h1, h2⟩ := h; exact ⟨vs, h1, Paired.mapP h2 fun _ _ q => ⟨q.1, grow q.2⟩⟩
      | ins c fs => obtain ⟨C, dx, vs, h0, h1, h2⟩ := h; exact ⟨C, dx, vs, h0, h1, Paired.mapP h2 fun _ _ q => ⟨q.1, grow q.2⟩⟩
    refine k B2 (m2 ++ [p]) _ _ ⟨⟨nw ++ [p], by rw [ep, List.append_assoc], fun a z => ?_⟩, stF.grow, stF.new, stF.keep, stF.there⟩ ⟨?_, by simp [RF.len], fun a z => ?_, RF.trk, fun kk a u e1 e2 => ?_⟩ (.ref ?_)
    · rcases List.mem_append.mp z with z | z
      · exact fp a z
      · rw [List.mem_singleton.mp z]; exact hp
    · rw [List.nodup_append]
      refine ⟨RF.nodup, by simp, fun a ha b hb e => ?_⟩
      rw [List.mem_singleton.mp hb] at e
      subst e
      exact nD ha
    · rcases List.mem_append.mp z with z | z
      · exact RF.inB a z
      · rw [List.mem_singleton.mp z]; exact bD
    · by_cases hk : kk < m2.length
      · rw [List.getElem?_append_left hk] at e1
        rw [List.getElem?_append_left (by rw [← RF.len]; exact hk)] at e2
        exact orm (RF.obj kk a u e1 e2)
      · have hk2 : kk = m2.length := by
          have := (List.getElem?_eq_some_iff.mp e1).1
          simp at this
          omega
        subst hk2
        rw [List.getElem?_append_right (Nat.le_refl _)] at e1
        rw [RF.len, List.getElem?_append_right (Nat.le_refl _)] at e2
        simp at e1 e2
        subst e1 e2
        exact ⟨_, upd_same, Paired.mapP hm fun _ _ q => ⟨q.1, grow (q.2.off bD)⟩⟩
    · rw [← RF.len, List.getElem?_append_right (Nat.le_refl _)]; simp
  · cases h2
end
end Zw
set_option maxRecDepth 100000
namespace Zw
open PySem L2

/-! ### how the functions are reckoned: one step at a time, what comes behind stays a name -/
@[simp] theorem ofs_iff {a b : String} : (Str.ofString a = Str.ofString b) = (a = b) := propext ofString_iff
@[simp] theorem ofs_beq {a b : String} : (Str.ofString a == Str.ofString b) = (a == b) := by
  rw [Bool.eq_iff_iff, beq_iff_eq, beq_iff_eq, ofs_iff]
@[simp high] theorem bind_some' {α β : Type} {x : α} {f : α → Option β} : Option.bind (some x) f = f x := id rfl
@[simp] theorem bind_ite' {α β : Type} {c : Prop} [Decidable c] {x y : Option α} {f : α → Option β} : Option.bind (if c then x else y) f = if c then x.bind f else y.bind f := by
  split <;> rfl
section
variable {a b c : EM} {A B : AM} {ta tb tc : TM} {p q : SM} {g g' : GM} {r : Ev} {S : Sto} {w x y : W} {ws : List W}
@[simp] theorem r_var {i : Nat} {v : W} (h : r[i]? = some (some v)) : mVar i r S = some (v, S) := by simp [mVar, h]
@[simp] theorem r_C : mC w r S = some (w, S) := id rfl
def opK2 (g : GM) (x : W) (q : W × Sto) : Option (W × Sto) := g x q.1 q.2
def opK (g : GM) (b : EM) (r : Ev) (p : W × Sto) : Option (W × Sto) := (b r p.2).bind (opK2 g p.1)
@[simp] theorem r_op : mOp g a b r S = (a r S).bind (opK g b r) := id rfl
@[simp] theorem r_opK : opK g b r (x, S) = (b r S).bind (opK2 g x) := id rfl
@[simp] theorem r_opK2 : opK2 g x (y, S) = g x y S := id rfl
def unK (g : W → Sto → Option (W × Sto)) (p : W × Sto) : Option (W × Sto) := g p.1 p.2
@[simp] theorem r_un {g : W → Sto → Option (W × Sto)} : mUn g a r S = (a r S).bind (unK g) := id rfl
@[simp] theorem r_unK {g : W → Sto → Option (W × Sto)} : unK g (x, S) = g x S := id rfl
@[simp] theorem r_nil : mNil r S = some ([], S) := id rfl
def consK2 (x : W) (q : List W × Sto) : Option (List W × Sto) := some (x :: q.1, q.2)
def consK (B : AM) (r : Ev) (p : W × Sto) : Option (List W × Sto) := (B r p.2).bind (consK2 p.1)
@[simp] theorem r_cons : mCons a B r S = (a r S).bind (consK B r) := id rfl
@[simp] theorem r_consK : consK B r (x, S) = (B r S).bind (consK2 x) := id rfl
@[simp] theorem r_consK2 : consK2 x (ws, S) = some (x :: ws, S) := id rfl
def bK (p : W × Sto) : Option (Bool × Sto) := match p.1 with
  | .bl b => some (b, p.2)
  | _ => none
@[simp] theorem r_B : mB a r S = (a r S).bind bK := id rfl
@[simp] theorem r_bK {k : Bool} : bK (.bl k, S) = some (k, S) := id rfl
def truK2 (S : Sto) (b : Bool) : Option (Bool × Sto) := some (b, S)
def truK (p : W × Sto) : Option (Bool × Sto) := (truW p.1 p.2).bind (truK2 p.2)
@[simp] theorem r_tru : mTru a r S = (a r S).bind truK := id rfl
@[simp] theorem r_truK : truK (x, S) = (truW x S).bind (truK2 S) := id rfl
@[simp] theorem r_truK2 {k : Bool} : truK2 S k = some (k, S) := id rfl
def andK (tb : TM) (r : Ev) (p : Bool × Sto) : Option (Bool × Sto) := if p.1 = true then tb r p.2 else some (false, p.2)
def orK (tb : TM) (r : Ev) (p : Bool × Sto) : Option (Bool × Sto) := if p.1 = true then some (true, p.2) else tb r p.2
def notK (p : Bool × Sto) : Option (Bool × Sto) := some (!p.1, p.2)
@[simp] theorem r_andT : mAndT ta tb r S = (ta r S).bind (andK tb r) := id rfl
@[simp] theorem r_orT : mOrT ta tb r S = (ta r S).bind (orK tb r) := id rfl
@[simp] theorem r_notT : mNotT ta r S = (ta r S).bind notK := id rfl
@[simp] theorem r_andK {k : Bool} : andK tb r (k, S) = if k = true then tb r S else some (false, S) := id rfl
@[simp] theorem r_orK {k : Bool} : orK tb r (k, S) = if k = true then some (true, S) else tb r S := id rfl
@[simp] theorem r_notK {k : Bool} : notK (k, S) = some (!k, S) := id rfl
def andVK2 (b : EM) (r : Ev) (x : W) (S : Sto) (k : Bool) : Option (W × Sto) := if k = true then b r S else some (x, S)
def andVK (b : EM) (r : Ev) (p : W × Sto) : Option (W × Sto) := (truW p.1 p.2).bind (andVK2 b r p.1 p.2)
def orVK2 (b : EM) (r : Ev) (x : W) (S : Sto) (k : Bool) : Option (W × Sto) := if k = true then some (x, S) else b r S
def orVK (b : EM) (r : Ev) (p : W × Sto) : Option (W × Sto) := (truW p.1 p.2).bind (orVK2 b r p.1 p.2)
def notVK2 (S : Sto) (k : Bool) : Option (W × Sto) := some (.bl (!k), S)
def notVK (p : W × Sto) : Option (W × Sto) := (truW p.1 p.2).bind (notVK2 p.2)
@[simp] theorem r_and : mAnd a b r S = (a r S).bind (andVK b r) := id rfl
@[simp] theorem r_or : mOr a b r S = (a r S).bind (orVK b r) := id rfl
@[simp] theorem r_not : mNot a r S = (a r S).bind notVK := id rfl
@[simp] theorem r_andVK : andVK b r (x, S) = (truW x S).bind (andVK2 b r x S) := id rfl
@[simp] theorem r_orVK : orVK b r (x, S) = (truW x S).bind (orVK2 b r x S) := id rfl
@[simp] theorem r_notVK : notVK (x, S) = (truW x S).bind (notVK2 S) := id rfl
@[simp] theorem r_andVK2 {k : Bool} : andVK2 b r x S k = if k = true then b r S else some (x, S) := id rfl
@[simp] theorem r_orVK2 {k : Bool} : orVK2 b r x S k = if k = true then some (x, S) else b r S := id rfl
@[simp] theorem r_notVK2 {k : Bool} : notVK2 S k = some (.bl (!k), S) := id rfl
def ifEK (a b : EM) (r : Ev) (p : Bool × Sto) : Option (W × Sto) := if p.1 = true then a r p.2 else b r p.2
@[simp] theorem r_ifE : mIfE tc a b r S = (tc r S).bind (ifEK a b r) := id rfl
@[simp] theorem r_ifEK {k : Bool} : ifEK a b r (k, S) = if k = true then a r S else b r S := id rfl
def tupK (p : List W × Sto) : Option (W × Sto) := if p.1.length ≤ sizeLine then some (.tup p.1, p.2) else none
def lstK (p : List W × Sto) : Option (W × Sto) := if p.1.length ≤ sizeLine then some (.lst p.1, p.2) else none
def lstMK (p : List W × Sto) : Option (W × Sto) := if p.1.length ≤ sizeLine then some (.ref p.2.length, p.2 ++ [.lst p.1]) else none
@[simp] theorem r_tup : mTup A r S = (A r S).bind tupK := id rfl
@[simp] theorem r_lst : mLst A r S = (A r S).bind lstK := id rfl
@[simp] theorem r_lstM : mLstM A r S = (A r S).bind lstMK := id rfl
@[simp] theorem r_tupK (h : ws.length ≤ sizeLine) : tupK (ws, S) = some (.tup ws, S) := by simp [tupK, h]
@[simp] theorem r_lstK (h : ws.length ≤ sizeLine) : lstK (ws, S) = some (.lst ws, S) := by simp [lstK, h]
@[simp] theorem r_lstMK (h : ws.length ≤ sizeLine) : lstMK (ws, S) = some (.ref S.length, S ++ [.lst ws]) := by simp [lstMK, h]
def chainK3 (g' : GM) (y : W) (u : W × Sto) : Option (W × Sto) := g' y u.1 u.2
def chainK2 (g' : GM) (c : EM) (r : Ev) (y : W) (z : W × Sto) : Option (W × Sto) := match z.1 with
  | .bl true => (c r z.2).bind (chainK3 g' y)
  | .bl false => some (.bl false, z.2)
  | _ => none
def chainK1 (g g' : GM) (c : EM) (r : Ev) (x : W) (q : W × Sto) : Option (W × Sto) := (g x q.1 q.2).bind (chainK2 g' c r q.1)
def chainK (g g' : GM) (b c : EM) (r : Ev) (p : W × Sto) : Option (W × Sto) := (b r p.2).bind (chainK1 g g' c r p.1)
@[simp] theorem r_chain : mChain g g' a b c r S = (a r S).bind (chainK g g' b c r) := id rfl
@[simp] theorem r_chainK : chainK g g' b c r (x, S) = (b r S).bind (chainK1 g g' c r x) := id rfl
@[simp] theorem r_chainK1 : chainK1 g g' c r x (y, S) = (g x y S).bind (chainK2 g' c r y) := id rfl
@[simp] theorem r_chainK2 {k : Bool} : chainK2 g' c r y (.bl k, S) = if k = true then (c r S).bind (chainK3 g' y) else some (.bl false, S) := by cases k <;> rfl
@[simp] theorem r_chainK3 : chainK3 g' y (x, S) = g' y x S := id rfl
def callK (g : CM) (p : List W × Sto) : Option (W × Sto) := g p.1 p.2
@[simp] theorem r_call {g : CM} : mCall g A r S = (A r S).bind (callK g) := id rfl
@[simp] theorem r_callK {g : CM} : callK g (ws, S) = g ws S := id rfl
def partK (p : W × Sto) : Option (Option Int × Sto) := match p.1 with
  | .int i => some (some i, p.2)
  | _ => none
@[simp] theorem r_part : mPart a r S = (a r S).bind partK := id rfl
@[simp] theorem r_partK {i : Int} : partK (.int i, S) = some (some i, S) := id rfl
@[simp] theorem r_noPart : mNoPart r S = some (none, S) := id rfl
abbrev OM := Ev → Sto → Option (Option Int × Sto)
def slK3 (g : SlM) (x : W) (l : Option Int) (z : Option Int × Sto) : Option (W × Sto) := g x l z.1 z.2
def slK2 (g : SlM) (u : OM) (r : Ev) (x : W) (q : Option Int × Sto) : Option (W × Sto) := (u r q.2).bind (slK3 g x q.1)
def slK (g : SlM) (l u : OM) (r : Ev) (p : W × Sto) : Option (W × Sto) := (l r p.2).bind (slK2 g u r p.1)
@[simp] theorem r_sl {g : SlM} {l u : OM} : mSl g a l u r S = (a r S).bind (slK g l u r) := id rfl
@[simp] theorem r_slK {g : SlM} {l u : OM} : slK g l u r (x, S) = (l r S).bind (slK2 g u r x) := id rfl
@[simp] theorem r_slK2 {g : SlM} {u : OM} {l : Option Int} : slK2 g u r x (l, S) = (u r S).bind (slK3 g x l) := id rfl
@[simp] theorem r_slK3 {g : SlM} {l h : Option Int} : slK3 g x l (h, S) = g x l h S := id rfl
/-! statements -/
@[simp] theorem r_skip : mSkip r S = some (.nx, r, S) := id rfl
def seqK (q : SM) (p : Fl × Ev × Sto) : Option (Fl × Ev × Sto) := match p.1 with
  | .nx => q p.2.1 p.2.2
  | .rt w => some (.rt w, p.2)
  | .bk => some (.bk, p.2)
  | .ct => some (.ct, p.2)
@[simp] theorem r_seq : mSeq p q r S = (p r S).bind (seqK q) := id rfl
@[simp] theorem r_seq_nx : seqK q (.nx, r, S) = q r S := id rfl
@[simp] theorem r_seq_rt : seqK q (.rt w, r, S) = some (.rt w, r, S) := id rfl
@[simp] theorem r_seq_bk : seqK q (.bk, r, S) = some (.bk, r, S) := id rfl
@[simp] theorem r_seq_ct : seqK q (.ct, r, S) = some (.ct, r, S) := id rfl
def retK (r : Ev) (p : W × Sto) : Option (Fl × Ev × Sto) := some (.rt p.1, r, p.2)
@[simp] theorem r_ret : mRet a r S = (a r S).bind (retK r) := id rfl
@[simp] theorem r_retK : retK r (x, S) = some (.rt x, r, S) := id rfl
@[simp] theorem r_retN : mRetN r S = some (.rt .non, r, S) := id rfl
def exprK (r : Ev) (p : W × Sto) : Option (Fl × Ev × Sto) := some (.nx, r, p.2)
@[simp] theorem r_expr : mExpr a r S = (a r S).bind (exprK r) := id rfl
@[simp] theorem r_exprK : exprK r (x, S) = some (.nx, r, S) := id rfl
def ifK (p q : SM) (r : Ev) (k : Bool × Sto) : Option (Fl × Ev × Sto) := if k.1 = true then p r k.2 else q r k.2
@[simp] theorem r_if : mIf tc p q r S = (tc r S).bind (ifK p q r) := id rfl
@[simp] theorem r_ifK {k : Bool} : ifK p q r (k, S) = if k = true then p r S else q r S := id rfl
@[simp] theorem r_break : mBreak r S = some (.bk, r, S) := id rfl
@[simp] theorem r_cont : mCont r S = some (.ct, r, S) := id rfl
def asgK2 (q : Ev × Sto) : Option (Fl × Ev × Sto) := some (.nx, q.1, q.2)
def asgK (t : TgM) (r : Ev) (p : W × Sto) : Option (Fl × Ev × Sto) := (t p.1 r p.2).bind asgK2
@[simp] theorem r_asg {t : TgM} : mAsg a t r S = (a r S).bind (asgK t r) := id rfl
@[simp] theorem r_asgK {t : TgM} : asgK t r (x, S) = (t x r S).bind asgK2 := id rfl
@[simp] theorem r_asgK2 : asgK2 (r, S) = some (.nx, r, S) := id rfl
@[simp] theorem r_tgN {i : Nat} : tgN i w r S = some (r.set i (some w), S) := id rfl
@[simp] theorem r_tgTup {gs : List TgM} : tgTup gs (.tup ws) r S = tgs gs ws r S := id rfl
def tgsK (gs : List TgM) (ws : List W) (p : Ev × Sto) : Option (Ev × Sto) := tgs gs ws p.1 p.2
@[simp] theorem r_tgs0 : tgs [] [] r S = some (r, S) := id rfl
theorem r_tgs1 {t : TgM} {gs : List TgM} : tgs (t :: gs) (w :: ws) r S = (t w r S).bind (tgsK gs ws) := id rfl
@[simp] theorem r_tgsK {gs : List TgM} : tgsK gs ws (r, S) = tgs gs ws r S := id rfl
def tgSubK3 (r : Ev) (S : Sto) : Option (Ev × Sto) := some (r, S)
def tgSubK2 (g : SetM) (w : W) (r : Ev) (x : W) (q : W × Sto) : Option (Ev × Sto) := (g x q.1 w q.2).bind (tgSubK3 r)
def tgSubK (g : SetM) (b : EM) (w : W) (r : Ev) (p : W × Sto) : Option (Ev × Sto) := (b r p.2).bind (tgSubK2 g w r p.1)
@[simp] theorem r_tgSub {g : SetM} : tgSub g a b w r S = (a r S).bind (tgSubK g b w r) := id rfl
@[simp] theorem r_tgSubK {g : SetM} : tgSubK g b w r (x, S) = (b r S).bind (tgSubK2 g w r x) := id rfl
@[simp] theorem r_tgSubK2 {g : SetM} : tgSubK2 g w r x (y, S) = (g x y w S).bind (tgSubK3 r) := id rfl
@[simp] theorem r_tgSubK3 : tgSubK3 r S = some (r, S) := id rfl
def parK (i j : Nat) (r : Ev) (p : List W × Sto) : Option (Fl × Ev × Sto) := match p.1 with
  | [v, w] => some (.nx, (r.set i (some v)).set j (some w), p.2)
  | _ => none
@[simp] theorem r_par {i j : Nat} : mPar i j A r S = (A r S).bind (parK i j r) := id rfl
@[simp] theorem r_parK {i j : Nat} : parK i j r ([x, y], S) = some (.nx, (r.set i (some x)).set j (some y), S) := id rfl
def augK2 (i : Nat) (r : Ev) (q : W × Sto) : Option (Fl × Ev × Sto) := some (.nx, r.set i (some q.1), q.2)
def augK (i : Nat) (g : GM) (r : Ev) (x : W) (p : W × Sto) : Option (Fl × Ev × Sto) := (g x p.1 p.2).bind (augK2 i r)
@[simp] theorem r_aug {i : Nat} (h : r[i]? = some (some x)) : mAug i g a r S = (a r S).bind (augK i g r x) := by
  simp only [mAug, h]; rfl
@[simp] theorem r_augK {i : Nat} : augK i g r x (y, S) = (g x y S).bind (augK2 i r) := id rfl
@[simp] theorem r_augK2 {i : Nat} : augK2 i r (x, S) = some (.nx, r.set i (some x), S) := id rfl
/-! loops -/
def forK (t : TgM) (q : SM) (r : Ev) (p : Src × Sto) : Option (Fl × Ev × Sto) := forL p.1.ok t q p.1.items r p.2
@[simp] theorem r_for {it : IM} {t : TgM} : mFor it t q r S = (it r S).bind (forK t q r) := id rfl
@[simp] theorem r_forK {t : TgM} {s : Src} : forK t q r (s, S) = forL s.ok t q s.items r S := id rfl
def seqItK (p : W × Sto) : Option (Src × Sto) := match p.1 with
  | .lst ws => some (⟨ws, none⟩, p.2)
  | .lsr ws => some (⟨ws, none⟩, p.2)
  | .ref k => match p.2[k]? with
    | some (.lst ws) => some (⟨ws, some k⟩, p.2)
    | _ => none
  | _ => none
@[simp] theorem r_itSeq : itSeq a r S = (a r S).bind seqItK := id rfl
@[simp] theorem r_seqItK_lst : seqItK (.lst ws, S) = some (⟨ws, none⟩, S) := id rfl
@[simp] theorem r_seqItK_lsr : seqItK (.lsr ws, S) = some (⟨ws, none⟩, S) := id rfl
@[simp] theorem r_seqItK_ref {k : Nat} (h : S[k]? = some (.lst ws)) : seqItK (.ref k, S) = some (⟨ws, some k⟩, S) := by simp [seqItK, h]
def tupItK (p : W × Sto) : Option (Src × Sto) := match p.1 with
  | .tup ws => some (⟨ws, none⟩, p.2)
  | _ => none
@[simp] theorem r_itTup : itTup a r S = (a r S).bind tupItK := id rfl
@[simp] theorem r_tupItK : tupItK (.tup ws, S) = some (⟨ws, none⟩, S) := id rfl
def rg1K (p : List W × Sto) : Option (Src × Sto) := match p.1 with
  | [.int j] => if -(2 ^ 62) ≤ j ∧ j < 2 ^ 62 then some (⟨rangeW 0 j.toNat, none⟩, p.2) else none
  | _ => none
@[simp] theorem r_rg1 : itRg1 A r S = (A r S).bind rg1K := id rfl
@[simp] theorem r_rg1K {j : Int} (h : -(2 ^ 62) ≤ j ∧ j < 2 ^ 62) : rg1K ([.int j], S) = some (⟨rangeW 0 j.toNat, none⟩, S) := by
  simp only [rg1K]; rw [if_pos h]
def rg2K (p : List W × Sto) : Option (Src × Sto) := match p.1 with
  | [.int i, .int j] => if -(2 ^ 62) ≤ i ∧ i < 2 ^ 62 ∧ -(2 ^ 62) ≤ j ∧ j < 2 ^ 62 then some (⟨rangeW i (j - i).toNat, none⟩, p.2) else none
  | _ => none
@[simp] theorem r_rg2 : itRg2 A r S = (A r S).bind rg2K := id rfl
@[simp] theorem r_rg2K {i j : Int} (h : -(2 ^ 62) ≤ i ∧ i < 2 ^ 62 ∧ -(2 ^ 62) ≤ j ∧ j < 2 ^ 62) : rg2K ([.int i, .int j], S) = some (⟨rangeW i (j - i).toNat, none⟩, S) := by
  simp only [rg2K]; rw [if_pos h]
@[simp] theorem r_ok_none {ws : List W} : Src.ok ⟨ws, none⟩ S = true := id rfl
@[simp] theorem r_yes : mYes r S = some (true, S) := id rfl
def lcAK (t : TgM) (ts : TM) (el : EM) (own : List Nat) (r : Ev) (p : Src × Sto) : Option (List W × Sto) := compL p.1.ok t ts el p.1.items (wipeW r own) p.2 []
@[simp] theorem r_lcA {own : List Nat} {it : IM} {t : TgM} {ts : TM} {el : EM} : mLcA own it t ts el r S = (it r S).bind (lcAK t ts el own r) := id rfl
@[simp] theorem r_lcAK {own : List Nat} {t : TgM} {ts : TM} {el : EM} {s : Src} : lcAK t ts el own r (s, S) = compL s.ok t ts el s.items (wipeW r own) S [] := id rfl
def lcK (q : List W × Sto) : Option (W × Sto) := some (.lst q.1, q.2)
def lcMK (q : List W × Sto) : Option (W × Sto) := some (.ref q.2.length, q.2 ++ [.lst q.1])
@[simp] theorem r_lc {own : List Nat} {it : IM} {t : TgM} {ts : TM} {el : EM} : mLc own it t ts el r S = (mLcA own it t ts el r S).bind lcK := id rfl
@[simp] theorem r_lcM {own : List Nat} {it : IM} {t : TgM} {ts : TM} {el : EM} : mLcM own it t ts el r S = (mLcA own it t ts el r S).bind lcMK := id rfl
@[simp] theorem r_lcK : lcK (ws, S) = some (.lst ws, S) := id rfl
@[simp] theorem r_lcMK : lcMK (ws, S) = some (.ref S.length, S ++ [.lst ws]) := id rfl
/-! calls of defs -/
def fK (fz : Bool) (mask : List Bool) (sem : CM) (p : List W × Sto) : Option (W × Sto) := runF fz mask sem p.1 p.2
@[simp] theorem r_F {fz : Bool} {mask : List Bool} {sem : CM} : mF fz mask sem A r S = (A r S).bind (fK fz mask sem) := id rfl
@[simp] theorem r_fK {fz : Bool} {mask : List Bool} {sem : CM} : fK fz mask sem (ws, S) = runF fz mask sem ws S := id rfl
def runK2 (fz : Bool) (rs : List Nat) (S : Sto) (z : W × Sto) : Option (W × Sto) := if (decide (rs.length ≤ z.2.length) && (z.2.take rs.length).all Ob.flat) = true then handF fz rs z.1 z.2 (putAll rs z.2 S) else none
def runK1 (fz : Bool) (sem : CM) (S : Sto) (rs : List Nat) (ws : List W) (os : List Ob) : Option (W × Sto) := if (decide rs.Nodup && os.all Ob.flat) = true then (sem ws os).bind (runK2 fz rs S) else none
def runK0 (fz : Bool) (sem : CM) (S : Sto) (p : List Nat × List W) : Option (W × Sto) := (getAll S p.1).bind (runK1 fz sem S p.1 p.2)
theorem r_run {fz : Bool} {mask : List Bool} {sem : CM} : runF fz mask sem ws S = (splitF mask ws 0).bind (runK0 fz sem S) := id rfl
@[simp] theorem r_runK0 {fz : Bool} {sem : CM} {rs : List Nat} : runK0 fz sem S (rs, ws) = (getAll S rs).bind (runK1 fz sem S rs ws) := id rfl
@[simp] theorem r_runK1 {fz : Bool} {sem : CM} {rs : List Nat} {os : List Ob} : runK1 fz sem S rs ws os = if (decide rs.Nodup && os.all Ob.flat) = true then (sem ws os).bind (runK2 fz rs S) else none := id rfl
@[simp] theorem r_runK2 {fz : Bool} {rs : List Nat} {S' : Sto} : runK2 fz rs S (x, S') = if (decide (rs.length ≤ S'.length) && (S'.take rs.length).all Ob.flat) = true then handF fz rs x S' (putAll rs S' S) else none := id rfl
theorem r_hand {fz : Bool} {rs : List Nat} {S' S1 : Sto} (h : x.flat = true) : handF fz rs x S' S1 = some (x, S1) := by
  cases x <;> simp_all [handF, W.flat]
def pureK (fz : Bool) (S : Sto) (p : W × Sto) : Option (W × Sto) := handF fz [] p.1 p.2 S
def pureK' (fz : Bool) (S : Sto) (p : W × Sto) : Option (W × Sto) := handF fz [] p.1 p.2 S
@[simp] theorem r_pureK {fz : Bool} {S' : Sto} : pureK fz S (x, S') = if x.flat = true then some (x, S) else pureK' fz S (x, S') := by
  by_cases h : x.flat = true
  · rw [if_pos h]
    cases x <;> simp_all [pureK, handF, W.flat]
  · rw [if_neg h]; rfl
theorem r_pureK_ref {fz : Bool} {S' : Sto} {j : Nat} (h : S'[j]? = some (.lst ws)) (h' : flats ws = true) : pureK true S (.ref j, S') = some (.lst ws, S) := by
  simp [pureK, handF, h, h']
@[simp] theorem run_f0 {fz : Bool} {sem : CM} : runF fz [] sem [] S = (sem [] []).bind (pureK fz S) := by
  simp [r_run]
  congr 1
@[simp] theorem run_f1 {fz : Bool} {sem : CM} : runF fz [false] sem [x] S = if x.flat = true then (sem [x] []).bind (pureK fz S) else none := by
  cases h : x.flat <;> simp [r_run, h]
  congr 1
@[simp] theorem run_f2 {fz : Bool} {sem : CM} : runF fz [false, false] sem [x, y] S = if (x.flat && y.flat) = true then (sem [x, y] []).bind (pureK fz S) else none := by
  cases h : x.flat <;> cases h1 : y.flat <;> simp [r_run, h, h1]
  congr 1
@[simp] theorem run_f3 {fz : Bool} {sem : CM} {z : W} : runF fz [false, false, false] sem [x, y, z] S = if (x.flat && y.flat && z.flat) = true then (sem [x, y, z] []).bind (pureK fz S) else none := by
  cases h : x.flat <;> cases h1 : y.flat <;> cases h2 : z.flat <;> simp [r_run, h, h1, h2]
  congr 1
@[simp] theorem run_f4 {fz : Bool} {sem : CM} {z u : W} : runF fz [false, false, false, false] sem [x, y, z, u] S = if (x.flat && y.flat && z.flat && u.flat) = true then (sem [x, y, z, u] []).bind (pureK fz S) else none := by
  cases h : x.flat <;> cases h1 : y.flat <;> cases h2 : z.flat <;> cases h3 : u.flat <;> simp [r_run, h, h1, h2, h3]
  congr 1
def semK (p : Fl × Ev × Sto) : Option (W × Sto) := match p.1 with
  | .rt w => some (w, p.2.2)
  | .nx => some (.non, p.2.2)
  | _ => none
@[simp] theorem r_sem {n tot : Nat} (h : ws.length = n) : mkSem n tot p ws S = (p (ws.map some ++ List.replicate (tot - n) none) S).bind semK := by
  simp only [mkSem, if_pos h]; rfl
@[simp] theorem r_sem_rt : semK (.rt w, r, S) = some (w, S) := id rfl
@[simp] theorem r_sem_nx : semK (.nx, r, S) = some (.non, S) := id rfl
def fldK2 (cs : List String) (f : String) (r : Ev) (y : W) (q : W × Sto) : Option (Fl × Ev × Sto) := match q.1 with
  | .ref k => match q.2[k]? with
    | some (.ins c fs) => if (cs.contains c && decide (fs.length < 1000)) = true then some (.nx, r, q.2.set k (.ins c (putW f y fs))) else none
    | _ => none
  | _ => none
def fldK (cs : List String) (f : String) (o : EM) (r : Ev) (p : W × Sto) : Option (Fl × Ev × Sto) := (o r p.2).bind (fldK2 cs f r p.1)
@[simp] theorem r_fld {cs : List String} {f : String} : mFld cs f b a r S = (a r S).bind (fldK cs f b r) := id rfl
@[simp] theorem r_fldK {cs : List String} {f : String} : fldK cs f b r (x, S) = (b r S).bind (fldK2 cs f r x) := id rfl
def fldK3 (cs : List String) (f : String) (r : Ev) (y : W) (k : Nat) (S : Sto) (o : Ob) : Option (Fl × Ev × Sto) := match o with
  | .ins c fs => if (cs.contains c && decide (fs.length < 1000)) = true then some (.nx, r, S.set k (.ins c (putW f y fs))) else none
  | _ => none
@[simp] theorem r_fldK2 {cs : List String} {f : String} {k : Nat} : fldK2 cs f r y (.ref k, S) = (S[k]?).bind (fldK3 cs f r y k S) := by
  simp only [fldK2]
  cases S[k]? with
  | none => rfl
  | some o => cases o <;> rfl
@[simp] theorem r_fldK3 {cs : List String} {f : String} {k : Nat} {c : String} {fs : List (String × W)} : fldK3 cs f r y k S (.ins c fs) = if (cs.contains c && decide (fs.length < 1000)) = true then some (.nx, r, S.set k (.ins c (putW f y fs))) else none := id rfl
def mMK2 (fz : Bool) (mask : List Bool) (sem : CM) (x : W) (q : List W × Sto) : Option (W × Sto) := runF fz mask sem (x :: q.1) q.2
def mMK (fz : Bool) (c f : String) (mask : List Bool) (sem : CM) (A : AM) (r : Ev) (p : W × Sto) : Option (W × Sto) := if insOk c f p.1 p.2 = true then (A r p.2).bind (mMK2 fz mask sem p.1) else none
@[simp] theorem r_M {fz : Bool} {c f : String} {mask : List Bool} {sem : CM} : mM fz c f mask sem a A r S = (a r S).bind (mMK fz c f mask sem A r) := id rfl
@[simp] theorem r_MK {fz : Bool} {c f : String} {mask : List Bool} {sem : CM} : mMK fz c f mask sem A r (x, S) = if insOk c f x S = true then (A r S).bind (mMK2 fz mask sem x) else none := id rfl
@[simp] theorem r_MK2 {fz : Bool} {mask : List Bool} {sem : CM} : mMK2 fz mask sem x (ws, S) = runF fz mask sem (x :: ws) S := id rfl
def mkK2 (c : String) (ns : List String) (S : Sto) (q : W × Sto) : Option (W × Sto) := match q.1 with
  | .non => match q.2[(0 : Nat)]? with
    | some (.ins c' fs) => if (c' == c && fs.map (·.1) == ns && fs.all fun x => x.2.flat) = true then some (.ins c ns (fs.map (·.2)), S) else none
    | _ => none
  | _ => none
def mkK (c : String) (ns : List String) (sem : CM) (p : List W × Sto) : Option (W × Sto) := if flats p.1 = true then (sem (.ref 0 :: p.1) [.ins c []]).bind (mkK2 c ns p.2) else none
@[simp] theorem r_Mk {c : String} {ns : List String} {sem : CM} : mMk c ns sem A r S = (A r S).bind (mkK c ns sem) := id rfl
@[simp] theorem r_mkK {c : String} {ns : List String} {sem : CM} : mkK c ns sem (ws, S) = if flats ws = true then (sem (.ref 0 :: ws) [.ins c []]).bind (mkK2 c ns S) else none := id rfl
def mkK3 (c : String) (ns : List String) (S : Sto) (o : Ob) : Option (W × Sto) := match o with
  | .ins c' fs => if (c' == c && fs.map (·.1) == ns && fs.all fun x => x.2.flat) = true then some (.ins c ns (fs.map (·.2)), S) else none
  | _ => none
@[simp] theorem r_mkK2 {c : String} {ns : List String} {S' : Sto} : mkK2 c ns S (.non, S') = (S'[(0 : Nat)]?).bind (mkK3 c ns S) := by
  simp only [mkK2]
  cases S'[(0 : Nat)]? with
  | none => rfl
  | some o => cases o <;> rfl
@[simp] theorem r_mkK3 {c c' : String} {ns : List String} {fs : List (String × W)} : mkK3 c ns S (.ins c' fs) = if (c' == c && fs.map (·.1) == ns && fs.all fun x => x.2.flat) = true then some (.ins c ns (fs.map (·.2)), S) else none := id rfl
def bmK2 (g : MM) (x : W) (q : List W × Sto) : Option (W × Sto) := g x q.1 q.2
def bmK (g : MM) (A : AM) (r : Ev) (p : W × Sto) : Option (W × Sto) := if isLst p.2 p.1 = true then (A r p.2).bind (bmK2 g p.1) else none
@[simp] theorem r_bm {g : MM} : mBM g a A r S = (a r S).bind (bmK g A r) := id rfl
@[simp] theorem r_bmK {g : MM} : bmK g A r (x, S) = if isLst S x = true then (A r S).bind (bmK2 g x) else none := id rfl
@[simp] theorem r_bmK2 {g : MM} : bmK2 g x (ws, S) = g x ws S := id rfl
/-! dicts -/
@[simp] theorem r_dNew : mDNew r S = some (.ref S.length, S ++ [.dK []]) := id rfl
@[simp] theorem r_dget {kvs : List (Key × W)} {k : Key} (h1 : dctOf S x = some kvs) (h2 : keyW y = some k) : dgetW x y S = (getK kvs k).map fun w => (w, S) := by
  simp only [dgetW, h1, h2, Option.bind_some]
def dinK2 (neg : Bool) (x : W) (q : W × Sto) : Option (W × Sto) := (dctOf q.2 q.1).bind fun kvs => (keyW x).bind fun k => some (.bl (if neg = true then !(getK kvs k).isSome else (getK kvs k).isSome), q.2)
def dinK (neg : Bool) (b : EM) (r : Ev) (p : W × Sto) : Option (W × Sto) := (b r p.2).bind (dinK2 neg p.1)
@[simp] theorem r_din {neg : Bool} : mDIn neg a b r S = (a r S).bind (dinK neg b r) := id rfl
@[simp] theorem r_dinK {neg : Bool} : dinK neg b r (x, S) = (b r S).bind (dinK2 neg x) := id rfl
@[simp] theorem r_dinK2 {neg : Bool} {kvs : List (Key × W)} {k : Key} (h1 : dctOf S y = some kvs) (h2 : keyW x = some k) : dinK2 neg x (y, S) = some (.bl (if neg = true then !(getK kvs k).isSome else (getK kvs k).isSome), S) := by
  simp only [dinK2, h1, h2, Option.bind_some]
def dputK3 (r : Ev) (v x : W) (z : W × Sto) : Option (Fl × Ev × Sto) := match x with
  | .ref j => match z.2[j]? with
    | some (.dK kvs) => (keyW z.1).bind fun k => if kvs.length < sizeLine then some (.nx, r, z.2.set j (.dK (setK kvs k v))) else none
    | _ => none
  | _ => none
def dputK2 (b : EM) (r : Ev) (v : W) (q : W × Sto) : Option (Fl × Ev × Sto) := (b r q.2).bind (dputK3 r v q.1)
def dputK (a b : EM) (r : Ev) (p : W × Sto) : Option (Fl × Ev × Sto) := (a r p.2).bind (dputK2 b r p.1)
@[simp] theorem r_dput : mDPut a b c r S = (c r S).bind (dputK a b r) := id rfl
@[simp] theorem r_dputK : dputK a b r (x, S) = (a r S).bind (dputK2 b r x) := id rfl
@[simp] theorem r_dputK2 : dputK2 b r x (y, S) = (b r S).bind (dputK3 r x y) := id rfl
@[simp] theorem r_dputK3 {j : Nat} {kvs : List (Key × W)} {k : Key} (h1 : S[j]? = some (.dK kvs)) (h2 : keyW y = some k) (h3 : kvs.length < sizeLine) : dputK3 r x (.ref j) (y, S) = some (.nx, r, S.set j (.dK (setK kvs k x))) := by
  simp only [dputK3, h1, h2, Option.bind_some, if_pos h3]
def get1K2 (x : W) (q : W × Sto) : Option (W × Sto) := (dctOf q.2 x).bind fun kvs => (keyW q.1).bind fun k => some ((getK kvs k).getD .non, q.2)
def get1K (b : EM) (r : Ev) (p : W × Sto) : Option (W × Sto) := if (dctOf p.2 p.1).isSome = true then (b r p.2).bind (get1K2 p.1) else none
@[simp] theorem r_get1 : mGet1 a b r S = (a r S).bind (get1K b r) := id rfl
@[simp] theorem r_get1K : get1K b r (x, S) = if (dctOf S x).isSome = true then (b r S).bind (get1K2 x) else none := id rfl
@[simp] theorem r_get1K2 {kvs : List (Key × W)} {k : Key} (h1 : dctOf S x = some kvs) (h2 : keyW y = some k) : get1K2 x (y, S) = some ((getK kvs k).getD .non, S) := by
  simp only [get1K2, h1, h2, Option.bind_some]
def get2K3 (x y : W) (z : W × Sto) : Option (W × Sto) := (dctOf z.2 x).bind fun kvs => (keyW y).bind fun k => some ((getK kvs k).getD z.1, z.2)
def get2K2 (c : EM) (r : Ev) (x : W) (q : W × Sto) : Option (W × Sto) := (c r q.2).bind (get2K3 x q.1)
def get2K (b c : EM) (r : Ev) (p : W × Sto) : Option (W × Sto) := if (dctOf p.2 p.1).isSome = true then (b r p.2).bind (get2K2 c r p.1) else none
@[simp] theorem r_get2 : mGet2 a b c r S = (a r S).bind (get2K b c r) := id rfl
@[simp] theorem r_get2K : get2K b c r (x, S) = if (dctOf S x).isSome = true then (b r S).bind (get2K2 c r x) else none := id rfl
@[simp] theorem r_get2K2 : get2K2 c r x (y, S) = (c r S).bind (get2K3 x y) := id rfl
@[simp] theorem r_get2K3 {kvs : List (Key × W)} {k : Key} (h1 : dctOf S x = some kvs) (h2 : keyW y = some k) : get2K3 x y (w, S) = some ((getK kvs k).getD w, S) := by
  simp only [get2K3, h1, h2, Option.bind_some]
def pairsK3 (k : Key) (x : W) (z : List (Key × W) × Sto) : Option (List (Key × W) × Sto) := some ((k, x) :: z.1, z.2)
def pairsK2 (l : List (EM × EM)) (r : Ev) (k : Key) (q : W × Sto) : Option (List (Key × W) × Sto) := (mPairs l r q.2).bind (pairsK3 k q.1)
def pairsK1 (b : EM) (l : List (EM × EM)) (r : Ev) (S : Sto) (k : Key) : Option (List (Key × W) × Sto) := (b r S).bind (pairsK2 l r k)
def pairsK (b : EM) (l : List (EM × EM)) (r : Ev) (p : W × Sto) : Option (List (Key × W) × Sto) := (keyW p.1).bind (pairsK1 b l r p.2)
@[simp] theorem r_pairs0 : mPairs [] r S = some ([], S) := id rfl
@[simp] theorem r_pairs1 {l : List (EM × EM)} : mPairs ((a, b) :: l) r S = (a r S).bind (pairsK b l r) := id rfl
@[simp] theorem r_pairsK {l : List (EM × EM)} : pairsK b l r (x, S) = (keyW x).bind (pairsK1 b l r S) := id rfl
@[simp] theorem r_pairsK1 {l : List (EM × EM)} {k : Key} : pairsK1 b l r S k = (b r S).bind (pairsK2 l r k) := id rfl
@[simp] theorem r_pairsK2 {l : List (EM × EM)} {k : Key} : pairsK2 l r k (x, S) = (mPairs l r S).bind (pairsK3 k x) := id rfl
@[simp] theorem r_pairsK3 {k : Key} {kvs : List (Key × W)} : pairsK3 k x (kvs, S) = some ((k, x) :: kvs, S) := id rfl
def dispK (p : List (Key × W) × Sto) : Option (W × Sto) := if p.1.length ≤ 15 then some (.ref p.2.length, p.2 ++ [.dK (p.1.foldl (fun acc kv => setK acc kv.1 kv.2) [])]) else none
@[simp] theorem r_disp {l : List (EM × EM)} : mDisp l r S = (mPairs l r S).bind dispK := id rfl
@[simp] theorem r_dispK {kvs : List (Key × W)} (h : kvs.length ≤ 15) : dispK (kvs, S) = some (.ref S.length, S ++ [.dK (kvs.foldl (fun acc kv => setK acc kv.1 kv.2) [])]) := by
  simp only [dispK, if_pos h]
/-! own operators -/
def inOwnK (S : Sto) (q : W × Sto) : Option (Bool × Sto) := match q.1 with
  | .bl b => some (b, q.2)
  | _ => none
theorem r_inOwnB {c : String} {sem : CM} {ns : List String} : inOwnB c sem x (.ins c ns ws) S = (runF true [false, false] sem [.ins c ns ws, x] S).bind (inOwnK S) := by
  simp only [inOwnB, beq_self_eq_true, if_true]; rfl
@[simp] theorem r_inOwnK {k : Bool} {S' : Sto} : inOwnK S (.bl k, S') = some (k, S') := id rfl
def blK (q : Bool × Sto) : Option (W × Sto) := some (.bl q.1, q.2)
def nblK (q : Bool × Sto) : Option (W × Sto) := some (.bl (!q.1), q.2)
@[simp] theorem r_inOwn {c : String} {sem : CM} {ns : List String} : inOwnW c sem x (.ins c ns ws) S = ((runF true [false, false] sem [.ins c ns ws, x] S).bind (inOwnK S)).bind blK := by
  rw [← r_inOwnB]; rfl
@[simp] theorem r_notInOwn {c : String} {sem : CM} {ns : List String} : notInOwnW c sem x (.ins c ns ws) S = ((runF true [false, false] sem [.ins c ns ws, x] S).bind (inOwnK S)).bind nblK := by
  rw [← r_inOwnB]; rfl
@[simp] theorem r_blK {k : Bool} : blK (k, S) = some (.bl k, S) := id rfl
@[simp] theorem r_nblK {k : Bool} : nblK (k, S) = some (.bl (!k), S) := id rfl
@[simp] theorem r_eqW_s {k : Bool} (h : eqS x y = some k) : eqW x y S = some (.bl k, S) := by unfold eqW eqB; rw [h]; rfl
@[simp] theorem r_neW_s {k : Bool} (h : eqS x y = some k) : neW x y S = some (.bl (!k), S) := by unfold neW eqB; rw [h]; rfl
@[simp] theorem r_len_tup : lenW [.tup ws] S = some (.int ws.length, S) := id rfl
@[simp] theorem r_len_lst : lenW [.lst ws] S = some (.int ws.length, S) := id rfl
@[simp] theorem r_len_lsr : lenW [.lsr ws] S = some (.int ws.length, S) := id rfl
theorem r_len_ref0 {k : Nat} (h : S[k]? = some (.lst ws)) : lenW [.ref k] S = some (.int ws.length, S) := by
  simp only [lenW, allOf, h]
def lenK (S : Sto) (o : Ob) : Option (W × Sto) := match o with
  | .lst ws => some (.int ws.length, S)
  | _ => none
@[simp] theorem r_len_ref {k : Nat} : lenW [.ref k] S = (S[k]?).bind (lenK S) := by
  simp only [lenW, allOf]
  cases S[k]? with
  | none => rfl
  | some o => cases o <;> rfl
@[simp] theorem r_lenK : lenK S (.lst ws) = some (.int ws.length, S) := id rfl
theorem r_len_str {z : Str} (h : z.length ≤ sizeLine) : lenW [.str z] S = some (.int z.length, S) := by
  simp only [lenW, if_pos h]
def atK (S : Sto) (w : W) : Option (W × Sto) := some (w, S)
@[simp] theorem r_atK : atK S w = some (w, S) := id rfl
@[simp] theorem r_ix_tup {i : Int} : ixW (.tup ws) (.int i) S = (atI ws i).bind (atK S) := by
  simp only [ixW, allOf]; cases atI ws i <;> rfl
@[simp] theorem r_ix_lst {i : Int} : ixW (.lst ws) (.int i) S = (atI ws i).bind (atK S) := by
  simp only [ixW, allOf]; cases atI ws i <;> rfl
@[simp] theorem r_ix_lsr {i : Int} : ixW (.lsr ws) (.int i) S = (atI ws i).bind (atK S) := by
  simp only [ixW, allOf]; cases atI ws i <;> rfl
def ixK (i : Int) (S : Sto) (o : Ob) : Option (W × Sto) := match o with
  | .lst ws => (atI ws i).bind (atK S)
  | _ => none
@[simp] theorem r_ix_ref {k : Nat} {i : Int} : ixW (.ref k) (.int i) S = (S[k]?).bind (ixK i S) := by
  simp only [ixW, allOf]
  cases S[k]? with
  | none => rfl
  | some o =>
    cases o with
    | lst ws => simp only [ixK, Option.bind_some]; cases atI ws i <;> rfl
    | _ => rfl
@[simp] theorem r_ixK {i : Int} : ixK i S (.lst ws) = (atI ws i).bind (atK S) := id rfl
end
end Zw
set_option maxRecDepth 100000
namespace Zw
open PySem L2
/-! ### loops by an invariant -/
theorem forL_inv_aux {ok : Sto → Bool} {tg : TgM} {body : SM} (Inv : Nat → Ev → Sto → Prop) (hok : ∀ i r S, Inv i r S → ok S = true) :
    ∀ (ws : List W) (n : Nat), (∀ i w r S, ws[i]? = some w → Inv (n + i) r S → ∃ r1 S1 r2 S2, tg w r S = some (r1, S1) ∧ body r1 S1 = some (.nx, r2, S2) ∧ Inv (n + i + 1) r2 S2) →
    ∀ r S, Inv n r S → ∃ r' S', forL ok tg body ws r S = some (.nx, r', S') ∧ Inv (n + ws.length) r' S' := by
  intro ws
  induction ws with
  | nil =>
    intro n _ r S h
    exact ⟨r, S, by simp [forL, hok _ _ _ h], h⟩
  | cons w ws ih =>
    intro n step r S h
    obtain ⟨r1, S1, r2, S2, e1, e2, h2⟩ := step 0 w r S rfl h
    obtain ⟨r', S', e3, h3⟩ := ih (n + 1) (fun i w' r S hw hi => by
      have := step (i + 1) w' r S (by simpa using hw) (by rwa [show n + (i + 1) = n + 1 + i by omega])
      rwa [show n + (i + 1) + 1 = n + 1 + i + 1 by omega] at this) r2 S2 h2
    refine ⟨r', S', ?_, ?_⟩
    · simp [forL, hok _ _ _ h, e1, e2, e3]
    · rw [show n + (w :: ws).length = n + 1 + ws.length by simp; omega]
      exact h3
theorem forL_inv {ok : Sto → Bool} {tg : TgM} {body : SM} {ws : List W} {r : Ev} {S : Sto} (Inv : Nat → Ev → Sto → Prop) (h0 : Inv 0 r S) (hok : ∀ i r S, Inv i r S → ok S = true)
    (step : ∀ i w r S, ws[i]? = some w → Inv i r S → ∃ r1 S1 r2 S2, tg w r S = some (r1, S1) ∧ body r1 S1 = some (.nx, r2, S2) ∧ Inv (i + 1) r2 S2) :
    ∃ r' S', forL ok tg body ws r S = some (.nx, r', S') ∧ Inv ws.length r' S' := by
  obtain ⟨r', S', h1, h2⟩ := forL_inv_aux Inv hok ws 0 (by simpa using step) r S h0
  exact ⟨r', S', h1, by simpa using h2⟩
/-- a loop whose body sets nothing but its own variable and the store -/
theorem forL_sto {ok : Sto → Bool} {i : Nat} {body : SM} {ws : List W} {r : Ev} {S : Sto} (Inv : Nat → Sto → Prop) (hr : r.set i none = r) (h0 : Inv 0 S) (hok : ∀ i S, Inv i S → ok S = true)
    (step : ∀ (j : Nat) (w : W) (S : Sto), ws[j]? = some w → Inv j S → ∃ S2, body (r.set i (some w)) S = some (.nx, r.set i (some w), S2) ∧ Inv (j + 1) S2) :
    ∃ u S', forL ok (tgN i) body ws r S = some (.nx, r.set i u, S') ∧ Inv ws.length S' := by
  obtain ⟨r', S', e, ⟨u, rfl⟩, h2⟩ := forL_inv (ok := ok) (tg := tgN i) (body := body) (ws := ws) (r := r) (S := S) (fun j r' S => (∃ u, r' = r.set i u) ∧ Inv j S) ⟨⟨none, hr.symm⟩, h0⟩ (fun i r S h => hok i S h.2) (by
    intro j w r1 S hw hi
    obtain ⟨⟨u, rfl⟩, hi⟩ := hi
    obtain ⟨S2, e, h2⟩ := step j w S hw hi
    refine ⟨r.set i (some w), S, _, S2, by simp, e, ⟨_, rfl⟩, h2⟩)
  exact ⟨u, S', e, h2⟩
/-- a loop that only tests -/
theorem forL_all {ok : Sto → Bool} {i : Nat} {body : SM} {ws : List W} {r : Ev} {S : Sto} (hr : r.set i none = r) (hok : ok S = true)
    (step : ∀ (j : Nat) (w : W), ws[j]? = some w → body (r.set i (some w)) S = some (.nx, r.set i (some w), S)) :
    ∃ u, forL ok (tgN i) body ws r S = some (.nx, r.set i u, S) := by
  obtain ⟨u, S', e, rfl⟩ := forL_sto (ok := ok) (i := i) (body := body) (ws := ws) (r := r) (S := S) (fun _ S' => S' = S) hr rfl (by rintro _ _ rfl; exact hok) (by rintro j w _ hw rfl; exact ⟨_, step j w hw, rfl⟩)
  exact ⟨u, e⟩
/-- the same where the variable held something before -/
theorem forL_all' {ok : Sto → Bool} {i : Nat} {body : SM} {ws : List W} {r : Ev} {S : Sto} (hok : ok S = true)
    (step : ∀ (j : Nat) (w : W), ws[j]? = some w → body (r.set i (some w)) S = some (.nx, r.set i (some w), S)) :
    ∃ r', forL ok (tgN i) body ws r S = some (.nx, r', S) ∧ (r' = r ∨ ∃ u, r' = r.set i u) := by
  obtain ⟨r', S', e, h, rfl⟩ := forL_inv (ok := ok) (tg := tgN i) (body := body) (ws := ws) (r := r) (S := S) (fun j r' S' => (r' = r ∨ ∃ u, r' = r.set i u) ∧ S' = S) ⟨.inl rfl, rfl⟩ (by rintro i r _ ⟨_, rfl⟩; exact hok) (by
    rintro j w r1 _ hw ⟨hi, rfl⟩
    have : r1.set i (some w) = r.set i (some w) := by
      rcases hi with rfl | ⟨u, rfl⟩
      · rfl
      · simp
    exact ⟨r.set i (some w), _, _, _, by simp [this], step j w hw, .inr ⟨_, rfl⟩, rfl⟩)
  exact ⟨r', e, h⟩
theorem compL_inv_aux {ok : Sto → Bool} {tg : TgM} {el : EM} {r : Ev} (Inv : Nat → Sto → List W → Prop) (hok : ∀ i S a, Inv i S a → ok S = true) (hlen : ∀ i S a, Inv i S a → a.length < sizeLine) :
    ∀ (ws : List W) (n : Nat), (∀ i w S a, ws[i]? = some w → Inv (n + i) S a → ∃ r1 S1 y S2, tg w r S = some (r1, S1) ∧ el r1 S1 = some (y, S2) ∧ Inv (n + i + 1) S2 (a ++ [y])) →
    ∀ S a, Inv n S a → ∃ S' a', compL ok tg mYes el ws r S a = some (a', S') ∧ Inv (n + ws.length) S' a' := by
  intro ws
  induction ws with
  | nil =>
    intro n _ S a h
    exact ⟨S, a, by simp [compL, hok _ _ _ h], h⟩
  | cons w ws ih =>
    intro n step S a h
    obtain ⟨r1, S1, y, S2, e1, e2, h2⟩ := step 0 w S a rfl h
    obtain ⟨S', a', e3, h3⟩ := ih (n + 1) (fun i w' S a hw hi => by
      have := step (i + 1) w' S a (by simpa using hw) (by rwa [show n + (i + 1) = n + 1 + i by omega])
      rwa [show n + (i + 1) + 1 = n + 1 + i + 1 by omega] at this) S2 (a ++ [y]) h2
    refine ⟨S', a', ?_, ?_⟩
    · have hl := hlen _ _ _ h
      simp [compL, hok _ _ _ h, e1, e2, e3, hl]
    · rw [show n + (w :: ws).length = n + 1 + ws.length by simp; omega]
      exact h3
theorem compL_inv {ok : Sto → Bool} {tg : TgM} {el : EM} {ws : List W} {r : Ev} {S : Sto} {a : List W} (Inv : Nat → Sto → List W → Prop) (h0 : Inv 0 S a) (hok : ∀ i S a, Inv i S a → ok S = true) (hlen : ∀ i S a, Inv i S a → a.length < sizeLine)
    (step : ∀ i w S a, ws[i]? = some w → Inv i S a → ∃ r1 S1 y S2, tg w r S = some (r1, S1) ∧ el r1 S1 = some (y, S2) ∧ Inv (i + 1) S2 (a ++ [y])) :
    ∃ S' a', compL ok tg mYes el ws r S a = some (a', S') ∧ Inv ws.length S' a' := by
  obtain ⟨S', a', h1, h2⟩ := compL_inv_aux Inv hok hlen ws 0 (by simpa using step) S a h0
  exact ⟨S', a', h1, by simpa using h2⟩
/-- a comprehension that only reckons -/
theorem compL_map {α : Type} {ok : Sto → Bool} {i : Nat} {el : EM} {g f : α → W} {r : Ev} {S : Sto} (hok : ok S = true) : ∀ (xs : List α) (acc : List W), acc.length + xs.length ≤ sizeLine →
    (∀ x ∈ xs, el (r.set i (some (g x))) S = some (f x, S)) → compL ok (tgN i) mYes el (xs.map g) r S acc = some (acc ++ xs.map f, S)
  | [], acc, _, _ => by simp [compL, hok]
  | x :: xs, acc, hl, he => by
    have h1 := he x (List.mem_cons_self ..)
    have h2 : acc.length < sizeLine := by simp at hl; omega
    simp only [List.map_cons, compL, hok, if_true, r_tgN, Option.bind_some, r_yes, h1, h2]
    rw [compL_map hok xs (acc ++ [f x]) (by simp at hl ⊢; omega) (fun y hy => he y (List.mem_cons_of_mem _ hy))]
    simp
theorem rangeW_len {lo : Int} {n : Nat} : (rangeW lo n).length = n := by simp [rangeW]
theorem rangeW_get {lo : Int} {n i : Nat} {w : W} (h : (rangeW lo n)[i]? = some w) : i < n ∧ w = .int (lo + i) := by
  unfold rangeW at h
  rw [List.getElem?_map] at h
  by_cases hi : i < n
  · rw [List.getElem?_range hi] at h
    cases h
    exact ⟨hi, rfl⟩
  · rw [List.getElem?_eq_none (by simp; omega)] at h
    cases h
theorem flats_int : ∀ ns : List Int, flats (ns.map W.int) = true
  | [] => rfl
  | n :: ns => by simp [flats_int ns]
theorem flats_app : ∀ (a b : List W), flats (a ++ b) = (flats a && flats b)
  | [], b => by simp
  | x :: a, b => by simp [flats_app a b, Bool.and_assoc]
theorem intsOf_map : ∀ ns : List Int, intsOf (ns.map W.int) = some ns
  | [] => rfl
  | n :: ns => by simp [intsOf, intsOf_map ns]
end Zw
set_option maxRecDepth 100000
set_option maxHeartbeats 4000000
namespace Pg
open PySem L2 Zw
def top (i : Nat) : Stmt := PySem.Challenge.pw_rungstead_k64_stretches.main.body.getD i (.Pass ⟨0, 0, 0, 0⟩)
structure Txt (K : PySem.W.Frag) (mg : Str → Option Value) : Prop where
  f_clamp : ∃ f fd, Fun K "clamp" "clamp" (top 3) f fd ∧ mg "clamp" = some (.ref f)
  f_saturate : ∃ f fd, Fun K "saturate" "saturate" (top 4) f fd ∧ mg "saturate" = some (.ref f)
  f__law_bag : ∃ f fd, Fun K "_law_bag" "_law_bag" (top 8) f fd ∧ mg "_law_bag" = some (.ref f)
  f__law_take : ∃ f fd, Fun K "_law_take" "_law_take" (top 9) f fd ∧ mg "_law_take" = some (.ref f)
  f__law_pick : ∃ f fd, Fun K "_law_pick" "_law_pick" (top 10) f fd ∧ mg "_law_pick" = some (.ref f)
  f__law_same : ∃ f fd, Fun K "_law_same" "_law_same" (top 11) f fd ∧ mg "_law_same" = some (.ref f)
  f__law_end : ∃ f fd, Fun K "_law_end" "_law_end" (top 12) f fd ∧ mg "_law_end" = some (.ref f)
  f__law_span : ∃ f fd, Fun K "_law_span" "_law_span" (top 13) f fd ∧ mg "_law_span" = some (.ref f)
  f__law_some : ∃ f fd, Fun K "_law_some" "_law_some" (top 14) f fd ∧ mg "_law_some" = some (.ref f)
  f__law_outcome : ∃ f fd, Fun K "_law_outcome" "_law_outcome" (top 15) f fd ∧ mg "_law_outcome" = some (.ref f)
  f__law_outcomes : ∃ f fd, Fun K "_law_outcomes" "_law_outcomes" (top 16) f fd ∧ mg "_law_outcomes" = some (.ref f)
  f__law_made : ∃ f fd, Fun K "_law_made" "_law_made" (top 17) f fd ∧ mg "_law_made" = some (.ref f)
  f__law_stands : ∃ f fd, Fun K "_law_stands" "_law_stands" (top 18) f fd ∧ mg "_law_stands" = some (.ref f)
  f__law_beside : ∃ f fd, Fun K "_law_beside" "_law_beside" (top 19) f fd ∧ mg "_law_beside" = some (.ref f)
  f__law_holds : ∃ f fd, Fun K "_law_holds" "_law_holds" (top 20) f fd ∧ mg "_law_holds" = some (.ref f)
  f__law_alike : ∃ f fd, Fun K "_law_alike" "_law_alike" (top 21) f fd ∧ mg "_law_alike" = some (.ref f)
  f_law : ∃ f fd, Fun K "law" "law" (top 22) f fd ∧ mg "law" = some (.ref f)
  z_abs : mg "abs" = none
  z_bool : mg "bool" = none
  z_int : mg "int" = none
  z_isinstance : mg "isinstance" = none
  z_len : mg "len" = none
  z_list : mg "list" = none
  z_max : mg "max" = none
  z_min : mg "min" = none
  z_range : mg "range" = none
  z_str : mg "str" = none
  z_tuple : mg "tuple" = none
  c_GREATEST : ∃ t, mg "GREATEST" = some (.int (999999) t)
  c_LEAST : ∃ t, mg "LEAST" = some (.int ((-999999)) t)
  g_Stretch : ∃ C, mg "Stretch" = some (.ref C) ∧ ClsX K C ∧ NoAttr K C "low" ∧ NoAttr K C "high" ∧ (∃ f fd, Fun K "__init__" "Stretch.__init__" (inClass (top 6) 0) f fd ∧ Mk K C f) ∧ (∃ f fd mc pp rest, Fun K "point" "Stretch.point" (inClass (top 6) 1) f fd ∧ PySem.W.readsIn K C mc = true ∧ PySem.W.specialIn K (.ref C) "__getattribute__" = some (some (.builtin "type.__getattribute__")) ∧ PySem.W.findCls K (.ref C) mc "point" = some (.get (.builtin "staticmethod.__get__") (.ref pp) .none (.ref C)) ∧ PySem.W.recIn K pp "staticmethod" = some (.ref f :: rest)) ∧ (∃ f fd, Fun K "__eq__" "Stretch.__eq__" (inClass (top 6) 2) f fd ∧ PySem.W.findIn K (.ref C) "__eq__" = some (some (.ref f)) ∧ PySem.W.isFn K (.ref f) = true ∧ PySem.W.selfFirst K C = true ∧ ∀ t ∈ tyNames, PySem.W.subIn K (.type t) (.ref C) = some false) ∧ (∃ f fd, Fun K "__contains__" "Stretch.__contains__" (inClass (top 6) 3) f fd ∧ PySem.W.findIn K (.ref C) "__contains__" = some (some (.ref f)) ∧ PySem.W.isFn K (.ref f) = true ∧ PySem.W.selfFirst K C = true ∧ ∀ t ∈ tyNames, PySem.W.subIn K (.type t) (.ref C) = some false) ∧ (∃ f fd, Fun K "__add__" "Stretch.__add__" (inClass (top 6) 4) f fd ∧ PySem.W.findIn K (.ref C) "__add__" = some (some (.ref f)) ∧ PySem.W.isFn K (.ref f) = true ∧ PySem.W.selfFirst K C = true ∧ ∀ t ∈ tyNames, PySem.W.subIn K (.type t) (.ref C) = some false) ∧ (∃ f fd, Fun K "__sub__" "Stretch.__sub__" (inClass (top 6) 5) f fd ∧ PySem.W.findIn K (.ref C) "__sub__" = some (some (.ref f)) ∧ PySem.W.isFn K (.ref f) = true ∧ PySem.W.selfFirst K C = true ∧ ∀ t ∈ tyNames, PySem.W.subIn K (.type t) (.ref C) = some false) ∧ (∃ f fd, Fun K "__mul__" "Stretch.__mul__" (inClass (top 6) 6) f fd ∧ PySem.W.findIn K (.ref C) "__mul__" = some (some (.ref f)) ∧ PySem.W.isFn K (.ref f) = true ∧ PySem.W.selfFirst K C = true ∧ ∀ t ∈ tyNames, PySem.W.subIn K (.type t) (.ref C) = some false) ∧ (∃ f fd, Fun K "__or__" "Stretch.__or__" (inClass (top 6) 7) f fd ∧ PySem.W.findIn K (.ref C) "__or__" = some (some (.ref f)) ∧ PySem.W.isFn K (.ref f) = true ∧ PySem.W.selfFirst K C = true ∧ ∀ t ∈ tyNames, PySem.W.subIn K (.type t) (.ref C) = some false) ∧ (∃ f fd, Fun K "least" "Stretch.least" (inClass (top 6) 8) f fd ∧ Meth K C "least" f) ∧ (∃ f fd, Fun K "greatest" "Stretch.greatest" (inClass (top 6) 9) f fd ∧ Meth K C "greatest" f) ∧ (∃ f fd, Fun K "within" "Stretch.within" (inClass (top 6) 10) f fd ∧ Meth K C "within" f) ∧ (∃ f fd, Fun K "is_point" "Stretch.is_point" (inClass (top 6) 11) f fd ∧ Meth K C "is_point" f) ∧ (∃ f fd, Fun K "saturated" "Stretch.saturated" (inClass (top 6) 12) f fd ∧ Meth K C "saturated" f) ∧ (∃ f fd, Fun K "pair" "Stretch.pair" (inClass (top 6) 13) f fd ∧ Meth K C "pair" f)
section
variable {P : Program} {w : World} {K : PySem.W.Frag} {mg : Str → Option Value} {base : Heap}
def c_GREATEST : W := .int 999999
theorem k_GREATEST {X : Cx} {pos : Pos} (T : Txt K mg) (hg : Gl X "GREATEST") (hK : X.K = K) (hm : X.mg = mg) : PEw X (.Name "GREATEST" pos) (mC c_GREATEST) := by
  obtain ⟨t, h⟩ := T.c_GREATEST
  rw [← hm] at h
  exact w_glob hg h (v := .int _) ⟨_, rfl⟩ (fun _ _ _ _ _ => .int _)
def c_LEAST : W := .int (-999999)
theorem k_LEAST {X : Cx} {pos : Pos} (T : Txt K mg) (hg : Gl X "LEAST") (hK : X.K = K) (hm : X.mg = mg) : PEw X (.Name "LEAST" pos) (mC c_LEAST) := by
  obtain ⟨t, h⟩ := T.c_LEAST
  rw [← hm] at h
  exact w_glob hg h (v := .int _) ⟨_, rfl⟩ (fun _ _ _ _ _ => .int _)
theorem e_Stretch (T : Txt K mg) : ∃ C, mg (Str.ofString "Stretch") = some (.ref C) := let ⟨C, h, _⟩ := T.g_Stretch; ⟨C, h⟩
theorem e__law_alike (T : Txt K mg) : ∃ C, mg (Str.ofString "_law_alike") = some (.ref C) := let ⟨f, _, _, h⟩ := T.f__law_alike; ⟨f, h⟩
theorem e__law_bag (T : Txt K mg) : ∃ C, mg (Str.ofString "_law_bag") = some (.ref C) := let ⟨f, _, _, h⟩ := T.f__law_bag; ⟨f, h⟩
theorem e__law_beside (T : Txt K mg) : ∃ C, mg (Str.ofString "_law_beside") = some (.ref C) := let ⟨f, _, _, h⟩ := T.f__law_beside; ⟨f, h⟩
theorem e__law_end (T : Txt K mg) : ∃ C, mg (Str.ofString "_law_end") = some (.ref C) := let ⟨f, _, _, h⟩ := T.f__law_end; ⟨f, h⟩
theorem e__law_holds (T : Txt K mg) : ∃ C, mg (Str.ofString "_law_holds") = some (.ref C) := let ⟨f, _, _, h⟩ := T.f__law_holds; ⟨f, h⟩
theorem e__law_made (T : Txt K mg) : ∃ C, mg (Str.ofString "_law_made") = some (.ref C) := let ⟨f, _, _, h⟩ := T.f__law_made; ⟨f, h⟩
theorem e__law_outcome (T : Txt K mg) : ∃ C, mg (Str.ofString "_law_outcome") = some (.ref C) := let ⟨f, _, _, h⟩ := T.f__law_outcome; ⟨f, h⟩
theorem e__law_outcomes (T : Txt K mg) : ∃ C, mg (Str.ofString "_law_outcomes") = some (.ref C) := let ⟨f, _, _, h⟩ := T.f__law_outcomes; ⟨f, h⟩
theorem e__law_pick (T : Txt K mg) : ∃ C, mg (Str.ofString "_law_pick") = some (.ref C) := let ⟨f, _, _, h⟩ := T.f__law_pick; ⟨f, h⟩
theorem e__law_same (T : Txt K mg) : ∃ C, mg (Str.ofString "_law_same") = some (.ref C) := let ⟨f, _, _, h⟩ := T.f__law_same; ⟨f, h⟩
theorem e__law_some (T : Txt K mg) : ∃ C, mg (Str.ofString "_law_some") = some (.ref C) := let ⟨f, _, _, h⟩ := T.f__law_some; ⟨f, h⟩
theorem e__law_span (T : Txt K mg) : ∃ C, mg (Str.ofString "_law_span") = some (.ref C) := let ⟨f, _, _, h⟩ := T.f__law_span; ⟨f, h⟩
theorem e__law_stands (T : Txt K mg) : ∃ C, mg (Str.ofString "_law_stands") = some (.ref C) := let ⟨f, _, _, h⟩ := T.f__law_stands; ⟨f, h⟩
theorem e__law_take (T : Txt K mg) : ∃ C, mg (Str.ofString "_law_take") = some (.ref C) := let ⟨f, _, _, h⟩ := T.f__law_take; ⟨f, h⟩
theorem e_clamp (T : Txt K mg) : ∃ C, mg (Str.ofString "clamp") = some (.ref C) := let ⟨f, _, _, h⟩ := T.f_clamp; ⟨f, h⟩
theorem e_saturate (T : Txt K mg) : ∃ C, mg (Str.ofString "saturate") = some (.ref C) := let ⟨f, _, _, h⟩ := T.f_saturate; ⟨f, h⟩
theorem a_low (T : Txt K mg) : ∀ c ∈ ["Stretch"], ∀ C, mg (Str.ofString c) = some (.ref C) → Cls K C ∧ NoAttr K C (Str.ofString "low") := by
  intro c hc D hD
  obtain ⟨C, g, z, n0, n1, _⟩ := T.g_Stretch
  simp only [List.mem_singleton] at hc
  subst hc
  rw [g] at hD; cases hD
  exact ⟨z.cl, n0⟩
theorem a_high (T : Txt K mg) : ∀ c ∈ ["Stretch"], ∀ C, mg (Str.ofString c) = some (.ref C) → Cls K C ∧ NoAttr K C (Str.ofString "high") := by
  intro c hc D hD
  obtain ⟨C, g, z, n0, n1, _⟩ := T.g_Stretch
  simp only [List.mem_singleton] at hc
  subst hc
  rw [g] at hD; cases hD
  exact ⟨z.cl, n1⟩
theorem x_cls (T : Txt K mg) : ∀ c ∈ ["Stretch"], ∀ C, mg (Str.ofString c) = some (.ref C) → ClsX K C := by
  intro c hc D hD
  obtain ⟨C, g, z, _⟩ := T.g_Stretch
  simp only [List.mem_singleton] at hc
  subst hc
  rw [g] at hD; cases hD
  exact z
def negW : W → Sto → Option (W × Sto) := fun x S => match x with
  | .int i => some (.int (-i), S)
  | _ => none
theorem u_neg {X : Cx} : UnW X (unaryOp .USub) negW := by
  refine ⟨_, un_neg, ?_⟩
  intro B m S H x vx Q w S' R px e k
  cases px <;> simp only [negW, Option.some.injEq, Prod.mk.injEq, reduceCtorEq] at e
  obtain ⟨rfl, rfl⟩ := e
  exact ⟨_, rfl, k B m H _ .refl R (.int _)⟩
/-! clamp -/
abbrev s_clamp : Stmt := (top 3)
abbrev N_clamp : List Str := ["n"]
theorem sc_clamp : FnScope N_clamp ["n"] (defScope s_clamp) := ⟨rfl, rfl, rfl, by decide +kernel, rfl, by decide +kernel, by decide +kernel⟩
def b_clamp : SM := mSeq (mIf (mB (mOp ltW (mVar 0) (mC c_LEAST))) (mRet (mC c_LEAST)) (mSkip)) (mSeq (mIf (mB (mOp gtW (mVar 0) (mC c_GREATEST))) (mRet (mC c_GREATEST)) (mSkip)) (mRet (mVar 0)))
def sem_clamp : CM := mkSem 1 1 b_clamp
theorem ok_clamp (T : Txt K mg) {f : Addr} {fd : FuncData} (F : Fun K "clamp" "clamp" s_clamp f fd) : FnOk P w K mg base CX0 1 f fd ["n"] (liftSp K mg 1 sem_clamp) :=
  fn_w (k := 0) (N := N_clamp) F sc_clamp fun cdv A outer s H E hr => by
    unfold b_clamp
    exact (wss_cons (ws_if (wt_cmp o_lt (w_var 0) ((k_LEAST T (by rfl) rfl rfl))) (wss_one (ws_ret ((k_LEAST T (by rfl) rfl rfl)))) (wss_nil)) (wss_cons (ws_if (wt_cmp o_gt (w_var 0) ((k_GREATEST T (by rfl) rfl rfl))) (wss_one (ws_ret ((k_GREATEST T (by rfl) rfl rfl)))) (wss_nil)) (wss_one (ws_ret (w_var 0)))))
theorem d_clamp (T : Txt K mg) : Def P w K mg base 1 "clamp" 1 sem_clamp := by
  obtain ⟨f, fd, F, g⟩ := T.f_clamp
  exact ⟨f, fd, ["n"], ok_clamp T F, rfl, g, F.kp, F.binds (ps := ["n"]) fun _ _ _ _ _ _ us hl => match us, hl with | [_], _ => rfl⟩
/-! saturate -/
abbrev s_saturate : Stmt := (top 4)
abbrev N_saturate : List Str := ["n", "top"]
theorem sc_saturate : FnScope N_saturate ["n", "top"] (defScope s_saturate) := ⟨rfl, rfl, rfl, by decide +kernel, rfl, by decide +kernel, by decide +kernel⟩
def b_saturate : SM := mSeq (mIf (mB (mOp ltW (mVar 0) (mC (.int 0)))) (mRet (mC (.int 0))) (mSkip)) (mSeq (mIf (mB (mOp gtW (mVar 0) (mVar 1))) (mRet (mVar 1)) (mSkip)) (mRet (mVar 0)))
def sem_saturate : CM := mkSem 2 2 b_saturate
theorem ok_saturate (T : Txt K mg) {f : Addr} {fd : FuncData} (F : Fun K "saturate" "saturate" s_saturate f fd) : FnOk P w K mg base CX0 1 f fd ["n", "top"] (liftSp K mg 2 sem_saturate) :=
  fn_w (k := 0) (N := N_saturate) F sc_saturate fun cdv A outer s H E hr => by
    unfold b_saturate
    exact (wss_cons (ws_if (wt_cmp o_lt (w_var 0) (w_int)) (wss_one (ws_ret (w_int))) (wss_nil)) (wss_cons (ws_if (wt_cmp o_gt (w_var 0) (w_var 1)) (wss_one (ws_ret (w_var 1))) (wss_nil)) (wss_one (ws_ret (w_var 0)))))
theorem d_saturate (T : Txt K mg) : Def P w K mg base 1 "saturate" 2 sem_saturate := by
  obtain ⟨f, fd, F, g⟩ := T.f_saturate
  exact ⟨f, fd, ["n", "top"], ok_saturate T F, rfl, g, F.kp, F.binds (ps := ["n", "top"]) fun _ _ _ _ _ _ us hl => match us, hl with | [_, _], _ => rfl⟩
/-! Stretch.__init__ -/
abbrev s_Stretch___init__ : Stmt := (inClass (top 6) 0)
abbrev N_Stretch___init__ : List Str := ["self", "low", "high"]
theorem sc_Stretch___init__ : FnScope N_Stretch___init__ ["self", "low", "high"] (defScope s_Stretch___init__) := ⟨rfl, rfl, rfl, by decide +kernel, rfl, by decide +kernel, by decide +kernel⟩
def b_Stretch___init__ : SM := mSeq (mFld ["Stretch"] "low" (mVar 0) (mVar 1)) (mFld ["Stretch"] "high" (mVar 0) (mVar 2))
def sem_Stretch___init__ : CM := mkSem 3 3 b_Stretch___init__
theorem ok_Stretch___init__ (T : Txt K mg) {f : Addr} {fd : FuncData} (F : Fun K "__init__" "Stretch.__init__" s_Stretch___init__ f fd) : FnOk P w K mg base CX0 1 f fd ["self", "low", "high"] (liftSp K mg 3 sem_Stretch___init__) :=
  fn_w (k := 0) (N := N_Stretch___init__) F sc_Stretch___init__ fun cdv A outer s H E hr => by
    unfold b_Stretch___init__
    exact (wss_cons (ws_fld (f := "low") ["Stretch"] (a_low T) (w_var 0) (w_var 1)) (wss_one (ws_fld (f := "high") ["Stretch"] (a_high T) (w_var 0) (w_var 2))))
theorem m_Stretch (T : Txt K mg) : Mak P w K mg base 1 "Stretch" 3 sem_Stretch___init__ := by
  obtain ⟨C, g, z, _, _, h, _⟩ := T.g_Stretch
  obtain ⟨f, fd, F, M⟩ := h
  exact ⟨C, f, fd, ["self", "low", "high"], ok_Stretch___init__ T F, rfl, g, M, F.binds (ps := ["self", "low", "high"]) fun _ _ _ _ _ _ us hl => match us, hl with | [_, _, _], _ => rfl⟩
/-! Stretch.point -/
abbrev s_Stretch_point : Stmt := (inClass (top 6) 1)
abbrev N_Stretch_point : List Str := ["n"]
theorem sc_Stretch_point : FnScope N_Stretch_point ["n"] (defScope s_Stretch_point) := ⟨rfl, rfl, rfl, by decide +kernel, rfl, by decide +kernel, by decide +kernel⟩
def b_Stretch_point : SM := mRet (mMk "Stretch" ["low", "high"] sem_Stretch___init__ (mCons (mVar 0) (mCons (mVar 0) (mNil))))
def sem_Stretch_point : CM := mkSem 1 1 b_Stretch_point
theorem ok_Stretch_point (T : Txt K mg) {f : Addr} {fd : FuncData} (F : Fun K "point" "Stretch.point" s_Stretch_point f fd) : FnOk P w K mg base CX0 3 f fd ["n"] (liftSp K mg 1 sem_Stretch_point) :=
  fn_w (k := 2) (N := N_Stretch_point) F sc_Stretch_point fun cdv A outer s H E hr => by
    unfold b_Stretch_point
    exact (wss_one (ws_ret (w_make "Stretch" ["low", "high"] (m_Stretch T) (hr.mono (by decide)) (by rfl) (wa_cons (w_var 0) (wa_cons (w_var 0) (wa_nil))) (hlen := (cons_len (cons_len nil_len))))))
theorem y_Stretch_point (T : Txt K mg) : Smt P w K mg base 3 "Stretch" "point" 1 sem_Stretch_point := by
  obtain ⟨C, g, z, _, _, _, h, _⟩ := T.g_Stretch
  obtain ⟨f, fd, mc, pp, rest, F, h1, h2, h3, h4⟩ := h
  exact ⟨C, mc, pp, f, rest, fd, ["n"], ok_Stretch_point T F, rfl, g, h1, h2, h3, h4, F.kp, F.binds (ps := ["n"]) fun _ _ _ _ _ _ us hl => match us, hl with | [_], _ => rfl⟩
/-! Stretch.__eq__ -/
abbrev s_Stretch___eq__ : Stmt := (inClass (top 6) 2)
abbrev N_Stretch___eq__ : List Str := ["self", "other"]
theorem sc_Stretch___eq__ : FnScope N_Stretch___eq__ ["self", "other"] (defScope s_Stretch___eq__) := ⟨rfl, rfl, rfl, by decide +kernel, rfl, by decide +kernel, by decide +kernel⟩
def b_Stretch___eq__ : SM := mRet (mAnd (mCall (isiW ["Stretch"]) (mCons (mVar 1) (mCons (mC (.glo "Stretch")) (mNil)))) (mAnd (mOp eqW (mUn (attrW ["Stretch"] "low") (mVar 0)) (mUn (attrW ["Stretch"] "low") (mVar 1))) (mOp eqW (mUn (attrW ["Stretch"] "high") (mVar 0)) (mUn (attrW ["Stretch"] "high") (mVar 1)))))
def sem_Stretch___eq__ : CM := mkSem 2 2 b_Stretch___eq__
theorem ok_Stretch___eq__ (T : Txt K mg) {f : Addr} {fd : FuncData} (F : Fun K "__eq__" "Stretch.__eq__" s_Stretch___eq__ f fd) : FnOk P w K mg base CX0 1 f fd ["self", "other"] (liftSp K mg 2 sem_Stretch___eq__) :=
  fn_w (k := 0) (N := N_Stretch___eq__) F sc_Stretch___eq__ fun cdv A outer s H E hr => by
    unfold b_Stretch___eq__
    exact (wss_one (ws_ret (w_and (w_callB (c_isi ["Stretch"] (x_cls T)) (by rfl) T.z_isinstance PyProof.Rows.boot_isinstance (wa_cons (w_var 1) (wa_cons (w_gloE (x := "Stretch") (by rfl) (e_Stretch T)) (wa_nil)))) (w_and (w_cmp (o_eq hr.units) (w_attr (f := "low") ["Stretch"] (a_low T) (w_var 0)) (w_attr (f := "low") ["Stretch"] (a_low T) (w_var 1))) (w_one (w_cmp (o_eq hr.units) (w_attr (f := "high") ["Stretch"] (a_high T) (w_var 0)) (w_attr (f := "high") ["Stretch"] (a_high T) (w_var 1))))))))
theorem o_Stretch___eq__ (T : Txt K mg) : Opr P w K mg base 1 "Stretch" "__eq__" 2 sem_Stretch___eq__ := by
  obtain ⟨C, g, z, _, _, _, _, h, _⟩ := T.g_Stretch
  obtain ⟨f, fd, F, h1, h2, h3, h4⟩ := h
  exact ⟨C, f, fd, ["self", "other"], ok_Stretch___eq__ T F, rfl, g, h1, h2, h3, h4, F.binds (ps := ["self", "other"]) fun _ _ _ _ _ _ us hl => match us, hl with | [_, _], _ => rfl⟩
/-! Stretch.__contains__ -/
abbrev s_Stretch___contains__ : Stmt := (inClass (top 6) 3)
abbrev N_Stretch___contains__ : List Str := ["self", "n"]
theorem sc_Stretch___contains__ : FnScope N_Stretch___contains__ ["self", "n"] (defScope s_Stretch___contains__) := ⟨rfl, rfl, rfl, by decide +kernel, rfl, by decide +kernel, by decide +kernel⟩
def b_Stretch___contains__ : SM := mRet (mChain leW leW (mUn (attrW ["Stretch"] "low") (mVar 0)) (mVar 1) (mUn (attrW ["Stretch"] "high") (mVar 0)))
def sem_Stretch___contains__ : CM := mkSem 2 2 b_Stretch___contains__
theorem ok_Stretch___contains__ (T : Txt K mg) {f : Addr} {fd : FuncData} (F : Fun K "__contains__" "Stretch.__contains__" s_Stretch___contains__ f fd) : FnOk P w K mg base CX0 1 f fd ["self", "n"] (liftSp K mg 2 sem_Stretch___contains__) :=
  fn_w (k := 0) (N := N_Stretch___contains__) F sc_Stretch___contains__ fun cdv A outer s H E hr => by
    unfold b_Stretch___contains__
    exact (wss_one (ws_ret (w_chain o_le o_le (w_attr (f := "low") ["Stretch"] (a_low T) (w_var 0)) (w_var 1) (w_attr (f := "high") ["Stretch"] (a_high T) (w_var 0)))))
theorem o_Stretch___contains__ (T : Txt K mg) : Opr P w K mg base 1 "Stretch" "__contains__" 2 sem_Stretch___contains__ := by
  obtain ⟨C, g, z, _, _, _, _, _, h, _⟩ := T.g_Stretch
  obtain ⟨f, fd, F, h1, h2, h3, h4⟩ := h
  exact ⟨C, f, fd, ["self", "n"], ok_Stretch___contains__ T F, rfl, g, h1, h2, h3, h4, F.binds (ps := ["self", "n"]) fun _ _ _ _ _ _ us hl => match us, hl with | [_, _], _ => rfl⟩
/-! Stretch.__add__ -/
abbrev s_Stretch___add__ : Stmt := (inClass (top 6) 4)
abbrev N_Stretch___add__ : List Str := ["self", "other"]
theorem sc_Stretch___add__ : FnScope N_Stretch___add__ ["self", "other"] (defScope s_Stretch___add__) := ⟨rfl, rfl, rfl, by decide +kernel, rfl, by decide +kernel, by decide +kernel⟩
def b_Stretch___add__ : SM := mRet (mMk "Stretch" ["low", "high"] sem_Stretch___init__ (mCons (mF true [false] sem_clamp (mCons (mOp addW (mUn (attrW ["Stretch"] "low") (mVar 0)) (mUn (attrW ["Stretch"] "low") (mVar 1))) (mNil))) (mCons (mF true [false] sem_clamp (mCons (mOp addW (mUn (attrW ["Stretch"] "high") (mVar 0)) (mUn (attrW ["Stretch"] "high") (mVar 1))) (mNil))) (mNil))))
def sem_Stretch___add__ : CM := mkSem 2 2 b_Stretch___add__
theorem ok_Stretch___add__ (T : Txt K mg) {f : Addr} {fd : FuncData} (F : Fun K "__add__" "Stretch.__add__" s_Stretch___add__ f fd) : FnOk P w K mg base CX0 3 f fd ["self", "other"] (liftSp K mg 2 sem_Stretch___add__) :=
  fn_w (k := 2) (N := N_Stretch___add__) F sc_Stretch___add__ fun cdv A outer s H E hr => by
    unfold b_Stretch___add__
    exact (wss_one (ws_ret (w_make "Stretch" ["low", "high"] (m_Stretch T) (hr.mono (by decide)) (by rfl) (wa_cons (w_call true [false] (d_clamp T) (hr.mono (by decide)) (by rfl) (wa_cons (w_op o_add (w_attr (f := "low") ["Stretch"] (a_low T) (w_var 0)) (w_attr (f := "low") ["Stretch"] (a_low T) (w_var 1))) (wa_nil))) (wa_cons (w_call true [false] (d_clamp T) (hr.mono (by decide)) (by rfl) (wa_cons (w_op o_add (w_attr (f := "high") ["Stretch"] (a_high T) (w_var 0)) (w_attr (f := "high") ["Stretch"] (a_high T) (w_var 1))) (wa_nil))) (wa_nil))) (hlen := (cons_len (cons_len nil_len))))))
theorem o_Stretch___add__ (T : Txt K mg) : Opr P w K mg base 3 "Stretch" "__add__" 2 sem_Stretch___add__ := by
  obtain ⟨C, g, z, _, _, _, _, _, _, h, _⟩ := T.g_Stretch
  obtain ⟨f, fd, F, h1, h2, h3, h4⟩ := h
  exact ⟨C, f, fd, ["self", "other"], ok_Stretch___add__ T F, rfl, g, h1, h2, h3, h4, F.binds (ps := ["self", "other"]) fun _ _ _ _ _ _ us hl => match us, hl with | [_, _], _ => rfl⟩
/-! Stretch.__sub__ -/
abbrev s_Stretch___sub__ : Stmt := (inClass (top 6) 5)
abbrev N_Stretch___sub__ : List Str := ["self", "other"]
theorem sc_Stretch___sub__ : FnScope N_Stretch___sub__ ["self", "other"] (defScope s_Stretch___sub__) := ⟨rfl, rfl, rfl, by decide +kernel, rfl, by decide +kernel, by decide +kernel⟩
def b_Stretch___sub__ : SM := mRet (mMk "Stretch" ["low", "high"] sem_Stretch___init__ (mCons (mF true [false] sem_clamp (mCons (mOp subW (mUn (attrW ["Stretch"] "low") (mVar 0)) (mUn (attrW ["Stretch"] "high") (mVar 1))) (mNil))) (mCons (mF true [false] sem_clamp (mCons (mOp subW (mUn (attrW ["Stretch"] "high") (mVar 0)) (mUn (attrW ["Stretch"] "low") (mVar 1))) (mNil))) (mNil))))
def sem_Stretch___sub__ : CM := mkSem 2 2 b_Stretch___sub__
theorem ok_Stretch___sub__ (T : Txt K mg) {f : Addr} {fd : FuncData} (F : Fun K "__sub__" "Stretch.__sub__" s_Stretch___sub__ f fd) : FnOk P w K mg base CX0 3 f fd ["self", "other"] (liftSp K mg 2 sem_Stretch___sub__) :=
  fn_w (k := 2) (N := N_Stretch___sub__) F sc_Stretch___sub__ fun cdv A outer s H E hr => by
    unfold b_Stretch___sub__
    exact (wss_one (ws_ret (w_make "Stretch" ["low", "high"] (m_Stretch T) (hr.mono (by decide)) (by rfl) (wa_cons (w_call true [false] (d_clamp T) (hr.mono (by decide)) (by rfl) (wa_cons (w_op o_sub (w_attr (f := "low") ["Stretch"] (a_low T) (w_var 0)) (w_attr (f := "high") ["Stretch"] (a_high T) (w_var 1))) (wa_nil))) (wa_cons (w_call true [false] (d_clamp T) (hr.mono (by decide)) (by rfl) (wa_cons (w_op o_sub (w_attr (f := "high") ["Stretch"] (a_high T) (w_var 0)) (w_attr (f := "low") ["Stretch"] (a_low T) (w_var 1))) (wa_nil))) (wa_nil))) (hlen := (cons_len (cons_len nil_len))))))
theorem o_Stretch___sub__ (T : Txt K mg) : Opr P w K mg base 3 "Stretch" "__sub__" 2 sem_Stretch___sub__ := by
  obtain ⟨C, g, z, _, _, _, _, _, _, _, h, _⟩ := T.g_Stretch
  obtain ⟨f, fd, F, h1, h2, h3, h4⟩ := h
  exact ⟨C, f, fd, ["self", "other"], ok_Stretch___sub__ T F, rfl, g, h1, h2, h3, h4, F.binds (ps := ["self", "other"]) fun _ _ _ _ _ _ us hl => match us, hl with | [_, _], _ => rfl⟩
/-! Stretch.__mul__ -/
abbrev s_Stretch___mul__ : Stmt := (inClass (top 6) 6)
abbrev N_Stretch___mul__ : List Str := ["self", "other", "products"]
theorem sc_Stretch___mul__ : FnScope N_Stretch___mul__ ["self", "other"] (defScope s_Stretch___mul__) := ⟨rfl, rfl, rfl, by decide +kernel, rfl, by decide +kernel, by decide +kernel⟩
def b_Stretch___mul__ : SM := mSeq (mAsg (mLst (mCons (mOp mulW (mUn (attrW ["Stretch"] "low") (mVar 0)) (mUn (attrW ["Stretch"] "low") (mVar 1))) (mCons (mOp mulW (mUn (attrW ["Stretch"] "low") (mVar 0)) (mUn (attrW ["Stretch"] "high") (mVar 1))) (mCons (mOp mulW (mUn (attrW ["Stretch"] "high") (mVar 0)) (mUn (attrW ["Stretch"] "low") (mVar 1))) (mCons (mOp mulW (mUn (attrW ["Stretch"] "high") (mVar 0)) (mUn (attrW ["Stretch"] "high") (mVar 1))) (mNil)))))) (tgN 2)) (mRet (mMk "Stretch" ["low", "high"] sem_Stretch___init__ (mCons (mF true [false] sem_clamp (mCons (mCall minW (mCons (mVar 2) (mNil))) (mNil))) (mCons (mF true [false] sem_clamp (mCons (mCall maxW (mCons (mVar 2) (mNil))) (mNil))) (mNil)))))
def sem_Stretch___mul__ : CM := mkSem 2 3 b_Stretch___mul__
theorem ok_Stretch___mul__ (T : Txt K mg) {f : Addr} {fd : FuncData} (F : Fun K "__mul__" "Stretch.__mul__" s_Stretch___mul__ f fd) : FnOk P w K mg base CX0 3 f fd ["self", "other"] (liftSp K mg 2 sem_Stretch___mul__) :=
  fn_w (k := 2) (N := N_Stretch___mul__) F sc_Stretch___mul__ fun cdv A outer s H E hr => by
    unfold b_Stretch___mul__
    exact (wss_cons (ws_set (i := 2) sc_Stretch___mul__.nd (w_lst (wa_cons (w_op o_mul (w_attr (f := "low") ["Stretch"] (a_low T) (w_var 0)) (w_attr (f := "low") ["Stretch"] (a_low T) (w_var 1))) (wa_cons (w_op o_mul (w_attr (f := "low") ["Stretch"] (a_low T) (w_var 0)) (w_attr (f := "high") ["Stretch"] (a_high T) (w_var 1))) (wa_cons (w_op o_mul (w_attr (f := "high") ["Stretch"] (a_high T) (w_var 0)) (w_attr (f := "low") ["Stretch"] (a_low T) (w_var 1))) (wa_cons (w_op o_mul (w_attr (f := "high") ["Stretch"] (a_high T) (w_var 0)) (w_attr (f := "high") ["Stretch"] (a_high T) (w_var 1))) (wa_nil))))))) (wss_one (ws_ret (w_make "Stretch" ["low", "high"] (m_Stretch T) (hr.mono (by decide)) (by rfl) (wa_cons (w_call true [false] (d_clamp T) (hr.mono (by decide)) (by rfl) (wa_cons (w_callB (c_min rfl) (by rfl) T.z_min (by decide +kernel) (wa_cons (w_var 2) (wa_nil))) (wa_nil))) (wa_cons (w_call true [false] (d_clamp T) (hr.mono (by decide)) (by rfl) (wa_cons (w_callB (c_max rfl) (by rfl) T.z_max (by decide +kernel) (wa_cons (w_var 2) (wa_nil))) (wa_nil))) (wa_nil))) (hlen := (cons_len (cons_len nil_len)))))))
theorem o_Stretch___mul__ (T : Txt K mg) : Opr P w K mg base 3 "Stretch" "__mul__" 2 sem_Stretch___mul__ := by
  obtain ⟨C, g, z, _, _, _, _, _, _, _, _, h, _⟩ := T.g_Stretch
  obtain ⟨f, fd, F, h1, h2, h3, h4⟩ := h
  exact ⟨C, f, fd, ["self", "other"], ok_Stretch___mul__ T F, rfl, g, h1, h2, h3, h4, F.binds (ps := ["self", "other"]) fun _ _ _ _ _ _ us hl => match us, hl with | [_, _], _ => rfl⟩
/-! Stretch.__or__ -/
abbrev s_Stretch___or__ : Stmt := (inClass (top 6) 7)
abbrev N_Stretch___or__ : List Str := ["self", "other"]
theorem sc_Stretch___or__ : FnScope N_Stretch___or__ ["self", "other"] (defScope s_Stretch___or__) := ⟨rfl, rfl, rfl, by decide +kernel, rfl, by decide +kernel, by decide +kernel⟩
def b_Stretch___or__ : SM := mRet (mMk "Stretch" ["low", "high"] sem_Stretch___init__ (mCons (mCall minW (mCons (mUn (attrW ["Stretch"] "low") (mVar 0)) (mCons (mUn (attrW ["Stretch"] "low") (mVar 1)) (mNil)))) (mCons (mCall maxW (mCons (mUn (attrW ["Stretch"] "high") (mVar 0)) (mCons (mUn (attrW ["Stretch"] "high") (mVar 1)) (mNil)))) (mNil))))
def sem_Stretch___or__ : CM := mkSem 2 2 b_Stretch___or__
theorem ok_Stretch___or__ (T : Txt K mg) {f : Addr} {fd : FuncData} (F : Fun K "__or__" "Stretch.__or__" s_Stretch___or__ f fd) : FnOk P w K mg base CX0 3 f fd ["self", "other"] (liftSp K mg 2 sem_Stretch___or__) :=
  fn_w (k := 2) (N := N_Stretch___or__) F sc_Stretch___or__ fun cdv A outer s H E hr => by
    unfold b_Stretch___or__
    exact (wss_one (ws_ret (w_make "Stretch" ["low", "high"] (m_Stretch T) (hr.mono (by decide)) (by rfl) (wa_cons (w_callB (c_min rfl) (by rfl) T.z_min (by decide +kernel) (wa_cons (w_attr (f := "low") ["Stretch"] (a_low T) (w_var 0)) (wa_cons (w_attr (f := "low") ["Stretch"] (a_low T) (w_var 1)) (wa_nil)))) (wa_cons (w_callB (c_max rfl) (by rfl) T.z_max (by decide +kernel) (wa_cons (w_attr (f := "high") ["Stretch"] (a_high T) (w_var 0)) (wa_cons (w_attr (f := "high") ["Stretch"] (a_high T) (w_var 1)) (wa_nil)))) (wa_nil))) (hlen := (cons_len (cons_len nil_len))))))
theorem o_Stretch___or__ (T : Txt K mg) : Opr P w K mg base 3 "Stretch" "__or__" 2 sem_Stretch___or__ := by
  obtain ⟨C, g, z, _, _, _, _, _, _, _, _, _, h, _⟩ := T.g_Stretch
  obtain ⟨f, fd, F, h1, h2, h3, h4⟩ := h
  exact ⟨C, f, fd, ["self", "other"], ok_Stretch___or__ T F, rfl, g, h1, h2, h3, h4, F.binds (ps := ["self", "other"]) fun _ _ _ _ _ _ us hl => match us, hl with | [_, _], _ => rfl⟩
/-! Stretch.least -/
abbrev s_Stretch_least : Stmt := (inClass (top 6) 8)
abbrev N_Stretch_least : List Str := ["self", "other"]
theorem sc_Stretch_least : FnScope N_Stretch_least ["self", "other"] (defScope s_Stretch_least) := ⟨rfl, rfl, rfl, by decide +kernel, rfl, by decide +kernel, by decide +kernel⟩
def b_Stretch_least : SM := mRet (mMk "Stretch" ["low", "high"] sem_Stretch___init__ (mCons (mCall minW (mCons (mUn (attrW ["Stretch"] "low") (mVar 0)) (mCons (mUn (attrW ["Stretch"] "low") (mVar 1)) (mNil)))) (mCons (mCall minW (mCons (mUn (attrW ["Stretch"] "high") (mVar 0)) (mCons (mUn (attrW ["Stretch"] "high") (mVar 1)) (mNil)))) (mNil))))
def sem_Stretch_least : CM := mkSem 2 2 b_Stretch_least
theorem ok_Stretch_least (T : Txt K mg) {f : Addr} {fd : FuncData} (F : Fun K "least" "Stretch.least" s_Stretch_least f fd) : FnOk P w K mg base CX0 3 f fd ["self", "other"] (liftSp K mg 2 sem_Stretch_least) :=
  fn_w (k := 2) (N := N_Stretch_least) F sc_Stretch_least fun cdv A outer s H E hr => by
    unfold b_Stretch_least
    exact (wss_one (ws_ret (w_make "Stretch" ["low", "high"] (m_Stretch T) (hr.mono (by decide)) (by rfl) (wa_cons (w_callB (c_min rfl) (by rfl) T.z_min (by decide +kernel) (wa_cons (w_attr (f := "low") ["Stretch"] (a_low T) (w_var 0)) (wa_cons (w_attr (f := "low") ["Stretch"] (a_low T) (w_var 1)) (wa_nil)))) (wa_cons (w_callB (c_min rfl) (by rfl) T.z_min (by decide +kernel) (wa_cons (w_attr (f := "high") ["Stretch"] (a_high T) (w_var 0)) (wa_cons (w_attr (f := "high") ["Stretch"] (a_high T) (w_var 1)) (wa_nil)))) (wa_nil))) (hlen := (cons_len (cons_len nil_len))))))
theorem h_Stretch_least (T : Txt K mg) : Mth P w K mg base 3 "Stretch" "least" 2 sem_Stretch_least := by
  obtain ⟨C, g, z, _, _, _, _, _, _, _, _, _, _, h, _⟩ := T.g_Stretch
  obtain ⟨f, fd, F, h1⟩ := h
  exact ⟨C, f, fd, ["self", "other"], ok_Stretch_least T F, rfl, g, z.cl, h1, F.binds (ps := ["self", "other"]) fun _ _ _ _ _ _ us hl => match us, hl with | [_, _], _ => rfl⟩
/-! Stretch.greatest -/
abbrev s_Stretch_greatest : Stmt := (inClass (top 6) 9)
abbrev N_Stretch_greatest : List Str := ["self", "other"]
theorem sc_Stretch_greatest : FnScope N_Stretch_greatest ["self", "other"] (defScope s_Stretch_greatest) := ⟨rfl, rfl, rfl, by decide +kernel, rfl, by decide +kernel, by decide +kernel⟩
def b_Stretch_greatest : SM := mRet (mMk "Stretch" ["low", "high"] sem_Stretch___init__ (mCons (mCall maxW (mCons (mUn (attrW ["Stretch"] "low") (mVar 0)) (mCons (mUn (attrW ["Stretch"] "low") (mVar 1)) (mNil)))) (mCons (mCall maxW (mCons (mUn (attrW ["Stretch"] "high") (mVar 0)) (mCons (mUn (attrW ["Stretch"] "high") (mVar 1)) (mNil)))) (mNil))))
def sem_Stretch_greatest : CM := mkSem 2 2 b_Stretch_greatest
theorem ok_Stretch_greatest (T : Txt K mg) {f : Addr} {fd : FuncData} (F : Fun K "greatest" "Stretch.greatest" s_Stretch_greatest f fd) : FnOk P w K mg base CX0 3 f fd ["self", "other"] (liftSp K mg 2 sem_Stretch_greatest) :=
  fn_w (k := 2) (N := N_Stretch_greatest) F sc_Stretch_greatest fun cdv A outer s H E hr => by
    unfold b_Stretch_greatest
    exact (wss_one (ws_ret (w_make "Stretch" ["low", "high"] (m_Stretch T) (hr.mono (by decide)) (by rfl) (wa_cons (w_callB (c_max rfl) (by rfl) T.z_max (by decide +kernel) (wa_cons (w_attr (f := "low") ["Stretch"] (a_low T) (w_var 0)) (wa_cons (w_attr (f := "low") ["Stretch"] (a_low T) (w_var 1)) (wa_nil)))) (wa_cons (w_callB (c_max rfl) (by rfl) T.z_max (by decide +kernel) (wa_cons (w_attr (f := "high") ["Stretch"] (a_high T) (w_var 0)) (wa_cons (w_attr (f := "high") ["Stretch"] (a_high T) (w_var 1)) (wa_nil)))) (wa_nil))) (hlen := (cons_len (cons_len nil_len))))))
theorem h_Stretch_greatest (T : Txt K mg) : Mth P w K mg base 3 "Stretch" "greatest" 2 sem_Stretch_greatest := by
  obtain ⟨C, g, z, _, _, _, _, _, _, _, _, _, _, _, h, _⟩ := T.g_Stretch
  obtain ⟨f, fd, F, h1⟩ := h
  exact ⟨C, f, fd, ["self", "other"], ok_Stretch_greatest T F, rfl, g, z.cl, h1, F.binds (ps := ["self", "other"]) fun _ _ _ _ _ _ us hl => match us, hl with | [_, _], _ => rfl⟩
/-! Stretch.within -/
abbrev s_Stretch_within : Stmt := (inClass (top 6) 10)
abbrev N_Stretch_within : List Str := ["self", "other"]
theorem sc_Stretch_within : FnScope N_Stretch_within ["self", "other"] (defScope s_Stretch_within) := ⟨rfl, rfl, rfl, by decide +kernel, rfl, by decide +kernel, by decide +kernel⟩
def b_Stretch_within : SM := mRet (mAnd (mOp leW (mUn (attrW ["Stretch"] "low") (mVar 1)) (mUn (attrW ["Stretch"] "low") (mVar 0))) (mOp leW (mUn (attrW ["Stretch"] "high") (mVar 0)) (mUn (attrW ["Stretch"] "high") (mVar 1))))
def sem_Stretch_within : CM := mkSem 2 2 b_Stretch_within
theorem ok_Stretch_within (T : Txt K mg) {f : Addr} {fd : FuncData} (F : Fun K "within" "Stretch.within" s_Stretch_within f fd) : FnOk P w K mg base CX0 1 f fd ["self", "other"] (liftSp K mg 2 sem_Stretch_within) :=
  fn_w (k := 0) (N := N_Stretch_within) F sc_Stretch_within fun cdv A outer s H E hr => by
    unfold b_Stretch_within
    exact (wss_one (ws_ret (w_and (w_cmp o_le (w_attr (f := "low") ["Stretch"] (a_low T) (w_var 1)) (w_attr (f := "low") ["Stretch"] (a_low T) (w_var 0))) (w_one (w_cmp o_le (w_attr (f := "high") ["Stretch"] (a_high T) (w_var 0)) (w_attr (f := "high") ["Stretch"] (a_high T) (w_var 1)))))))
theorem h_Stretch_within (T : Txt K mg) : Mth P w K mg base 1 "Stretch" "within" 2 sem_Stretch_within := by
  obtain ⟨C, g, z, _, _, _, _, _, _, _, _, _, _, _, _, h, _⟩ := T.g_Stretch
  obtain ⟨f, fd, F, h1⟩ := h
  exact ⟨C, f, fd, ["self", "other"], ok_Stretch_within T F, rfl, g, z.cl, h1, F.binds (ps := ["self", "other"]) fun _ _ _ _ _ _ us hl => match us, hl with | [_, _], _ => rfl⟩
/-! Stretch.is_point -/
abbrev s_Stretch_is_point : Stmt := (inClass (top 6) 11)
abbrev N_Stretch_is_point : List Str := ["self"]
theorem sc_Stretch_is_point : FnScope N_Stretch_is_point ["self"] (defScope s_Stretch_is_point) := ⟨rfl, rfl, rfl, by decide +kernel, rfl, by decide +kernel, by decide +kernel⟩
def b_Stretch_is_point : SM := mRet (mOp eqW (mUn (attrW ["Stretch"] "low") (mVar 0)) (mUn (attrW ["Stretch"] "high") (mVar 0)))
def sem_Stretch_is_point : CM := mkSem 1 1 b_Stretch_is_point
theorem ok_Stretch_is_point (T : Txt K mg) {f : Addr} {fd : FuncData} (F : Fun K "is_point" "Stretch.is_point" s_Stretch_is_point f fd) : FnOk P w K mg base CX0 1 f fd ["self"] (liftSp K mg 1 sem_Stretch_is_point) :=
  fn_w (k := 0) (N := N_Stretch_is_point) F sc_Stretch_is_point fun cdv A outer s H E hr => by
    unfold b_Stretch_is_point
    exact (wss_one (ws_ret (w_cmp (o_eq hr.units) (w_attr (f := "low") ["Stretch"] (a_low T) (w_var 0)) (w_attr (f := "high") ["Stretch"] (a_high T) (w_var 0)))))
theorem h_Stretch_is_point (T : Txt K mg) : Mth P w K mg base 1 "Stretch" "is_point" 1 sem_Stretch_is_point := by
  obtain ⟨C, g, z, _, _, _, _, _, _, _, _, _, _, _, _, _, h, _⟩ := T.g_Stretch
  obtain ⟨f, fd, F, h1⟩ := h
  exact ⟨C, f, fd, ["self"], ok_Stretch_is_point T F, rfl, g, z.cl, h1, F.binds (ps := ["self"]) fun _ _ _ _ _ _ us hl => match us, hl with | [_], _ => rfl⟩
/-! Stretch.saturated -/
abbrev s_Stretch_saturated : Stmt := (inClass (top 6) 12)
abbrev N_Stretch_saturated : List Str := ["self", "top"]
theorem sc_Stretch_saturated : FnScope N_Stretch_saturated ["self", "top"] (defScope s_Stretch_saturated) := ⟨rfl, rfl, rfl, by decide +kernel, rfl, by decide +kernel, by decide +kernel⟩
def b_Stretch_saturated : SM := mRet (mMk "Stretch" ["low", "high"] sem_Stretch___init__ (mCons (mF true [false, false] sem_saturate (mCons (mUn (attrW ["Stretch"] "low") (mVar 0)) (mCons (mVar 1) (mNil)))) (mCons (mF true [false, false] sem_saturate (mCons (mUn (attrW ["Stretch"] "high") (mVar 0)) (mCons (mVar 1) (mNil)))) (mNil))))
def sem_Stretch_saturated : CM := mkSem 2 2 b_Stretch_saturated
theorem ok_Stretch_saturated (T : Txt K mg) {f : Addr} {fd : FuncData} (F : Fun K "saturated" "Stretch.saturated" s_Stretch_saturated f fd) : FnOk P w K mg base CX0 3 f fd ["self", "top"] (liftSp K mg 2 sem_Stretch_saturated) :=
  fn_w (k := 2) (N := N_Stretch_saturated) F sc_Stretch_saturated fun cdv A outer s H E hr => by
    unfold b_Stretch_saturated
    exact (wss_one (ws_ret (w_make "Stretch" ["low", "high"] (m_Stretch T) (hr.mono (by decide)) (by rfl) (wa_cons (w_call true [false, false] (d_saturate T) (hr.mono (by decide)) (by rfl) (wa_cons (w_attr (f := "low") ["Stretch"] (a_low T) (w_var 0)) (wa_cons (w_var 1) (wa_nil)))) (wa_cons (w_call true [false, false] (d_saturate T) (hr.mono (by decide)) (by rfl) (wa_cons (w_attr (f := "high") ["Stretch"] (a_high T) (w_var 0)) (wa_cons (w_var 1) (wa_nil)))) (wa_nil))) (hlen := (cons_len (cons_len nil_len))))))
theorem h_Stretch_saturated (T : Txt K mg) : Mth P w K mg base 3 "Stretch" "saturated" 2 sem_Stretch_saturated := by
  obtain ⟨C, g, z, _, _, _, _, _, _, _, _, _, _, _, _, _, _, h, _⟩ := T.g_Stretch
  obtain ⟨f, fd, F, h1⟩ := h
  exact ⟨C, f, fd, ["self", "top"], ok_Stretch_saturated T F, rfl, g, z.cl, h1, F.binds (ps := ["self", "top"]) fun _ _ _ _ _ _ us hl => match us, hl with | [_, _], _ => rfl⟩
/-! Stretch.pair -/
abbrev s_Stretch_pair : Stmt := (inClass (top 6) 13)
abbrev N_Stretch_pair : List Str := ["self"]
theorem sc_Stretch_pair : FnScope N_Stretch_pair ["self"] (defScope s_Stretch_pair) := ⟨rfl, rfl, rfl, by decide +kernel, rfl, by decide +kernel, by decide +kernel⟩
def b_Stretch_pair : SM := mRet (mTup (mCons (mUn (attrW ["Stretch"] "low") (mVar 0)) (mCons (mUn (attrW ["Stretch"] "high") (mVar 0)) (mNil))))
def sem_Stretch_pair : CM := mkSem 1 1 b_Stretch_pair
theorem ok_Stretch_pair (T : Txt K mg) {f : Addr} {fd : FuncData} (F : Fun K "pair" "Stretch.pair" s_Stretch_pair f fd) : FnOk P w K mg base CX0 1 f fd ["self"] (liftSp K mg 1 sem_Stretch_pair) :=
  fn_w (k := 0) (N := N_Stretch_pair) F sc_Stretch_pair fun cdv A outer s H E hr => by
    unfold b_Stretch_pair
    exact (wss_one (ws_ret (w_tup (wa_cons (w_attr (f := "low") ["Stretch"] (a_low T) (w_var 0)) (wa_cons (w_attr (f := "high") ["Stretch"] (a_high T) (w_var 0)) (wa_nil))))))
theorem h_Stretch_pair (T : Txt K mg) : Mth P w K mg base 1 "Stretch" "pair" 1 sem_Stretch_pair := by
  obtain ⟨C, g, z, _, _, _, _, _, _, _, _, _, _, _, _, _, _, _, h⟩ := T.g_Stretch
  obtain ⟨f, fd, F, h1⟩ := h
  exact ⟨C, f, fd, ["self"], ok_Stretch_pair T F, rfl, g, z.cl, h1, F.binds (ps := ["self"]) fun _ _ _ _ _ _ us hl => match us, hl with | [_], _ => rfl⟩
/-! _law_bag -/
abbrev s__law_bag : Stmt := (top 8)
abbrev N__law_bag : List Str := ["script", "at", "cell"]
theorem sc__law_bag : FnScope N__law_bag ["script", "at"] (defScope s__law_bag) := ⟨rfl, rfl, rfl, by decide +kernel, rfl, by decide +kernel, by decide +kernel⟩
def b__law_bag : SM := mSeq (mAsg (mC (.int 0)) (tgN 2)) (mSeq (mIf (mB (mOp ltW (mVar 1) (mCall lenW (mCons (mVar 0) (mNil))))) (mAsg (mOp ixW (mVar 0) (mVar 1)) (tgN 2)) (mSkip)) (mSeq (mIf (mB (mOp ltW (mVar 2) (mC (.int 0)))) (mAsg (mOp subW (mC (.int 1)) (mOp mulW (mC (.int 2)) (mVar 2))) (tgN 2)) (mSkip)) (mSeq (mIf (mB (mOp geW (mVar 2) (mOp powW (mC (.int 10)) (mC (.int 18))))) (mRet (mLstM (mCons (mOp subW (mVar 2) (mOp powW (mC (.int 10)) (mC (.int 18)))) (mCons (mVar 1) (mCons (mC (.int 1)) (mNil)))))) (mSkip)) (mRet (mLstM (mCons (mVar 2) (mCons (mVar 1) (mCons (mC (.int 0)) (mNil)))))))))
def sem__law_bag : CM := mkSem 2 3 b__law_bag
theorem ok__law_bag (T : Txt K mg) {f : Addr} {fd : FuncData} (F : Fun K "_law_bag" "_law_bag" s__law_bag f fd) : FnOk P w K mg base CX0 1 f fd ["script", "at"] (liftSp K mg 2 sem__law_bag) :=
  fn_w (k := 0) (N := N__law_bag) F sc__law_bag fun cdv A outer s H E hr => by
    unfold b__law_bag
    exact (wss_cons (ws_set (i := 2) sc__law_bag.nd (w_int)) (wss_cons (ws_if (wt_cmp o_lt (w_var 1) (w_callB c_len (by rfl) T.z_len (by decide +kernel) (wa_cons (w_var 0) (wa_nil)))) (wss_one (ws_set (i := 2) sc__law_bag.nd (w_ix i_ix (w_var 0) (w_var 1)))) (wss_nil)) (wss_cons (ws_if (wt_cmp o_lt (w_var 2) (w_int)) (wss_one (ws_set (i := 2) sc__law_bag.nd (w_op o_sub (w_int) (w_op o_mul (w_int) (w_var 2))))) (wss_nil)) (wss_cons (ws_if (wt_cmp o_ge (w_var 2) (w_op o_pow (w_int) (w_int))) (wss_one (ws_ret (w_lstM (wa_cons (w_op o_sub (w_var 2) (w_op o_pow (w_int) (w_int))) (wa_cons (w_var 1) (wa_cons (w_int) (wa_nil))))))) (wss_nil)) (wss_one (ws_ret (w_lstM (wa_cons (w_var 2) (wa_cons (w_var 1) (wa_cons (w_int) (wa_nil)))))))))))
theorem d__law_bag (T : Txt K mg) : Def P w K mg base 1 "_law_bag" 2 sem__law_bag := by
  obtain ⟨f, fd, F, g⟩ := T.f__law_bag
  exact ⟨f, fd, ["script", "at"], ok__law_bag T F, rfl, g, F.kp, F.binds (ps := ["script", "at"]) fun _ _ _ _ _ _ us hl => match us, hl with | [_, _], _ => rfl⟩
/-! _law_take -/
abbrev s__law_take : Stmt := (top 9)
abbrev N__law_take : List Str := ["bag", "many", "digit", "one", "two", "three"]
theorem sc__law_take : FnScope N__law_take ["bag", "many"] (defScope s__law_take) := ⟨rfl, rfl, rfl, by decide +kernel, rfl, by decide +kernel, by decide +kernel⟩
def b__law_take : SM := mSeq (mIf (mAndT (mB (mOp eqW (mOp ixW (mVar 0) (mC (.int 2))) (mC (.int 1)))) (mB (mOp gtW (mOp ixW (mVar 0) (mC (.int 0))) (mC (.int 1))))) (mSeq (mAsg (mOp modW (mCall intW (mCons (mOp ixW (mVar 0) (mC (.int 0))) (mNil))) (mVar 1)) (tgN 2)) (mSeq (mAsg (mOp fdivW (mOp ixW (mVar 0) (mC (.int 0))) (mVar 1)) (tgSub setW (mVar 0) (mC (.int 0)))) (mRet (mVar 2)))) (mSkip)) (mSeq (mAsg (mOp addW (mOp ixW (mVar 0) (mC (.int 1))) (mC (.int 1))) (tgSub setW (mVar 0) (mC (.int 1)))) (mSeq (mAsg (mOp modW (mCall intW (mCons (mOp addW (mOp addW (mOp mulW (mOp ixW (mVar 0) (mC (.int 0))) (mC (.int 48271))) (mOp mulW (mOp ixW (mVar 0) (mC (.int 1))) (mC (.int 69621)))) (mC (.int 12345))) (mNil))) (mC (.int 2147483647))) (tgN 3)) (mSeq (mAsg (mOp modW (mCall intW (mCons (mOp addW (mOp mulW (mVar 3) (mVar 3)) (mOp mulW (mOp ixW (mVar 0) (mC (.int 1))) (mC (.int 40692)))) (mNil))) (mC (.int 2147483399))) (tgN 4)) (mSeq (mAsg (mOp modW (mCall intW (mCons (mOp addW (mOp mulW (mVar 4) (mVar 4)) (mVar 3)) (mNil))) (mC (.int 1000000007))) (tgN 5)) (mRet (mOp modW (mCall intW (mCons (mOp fdivW (mVar 5) (mC (.int 7))) (mNil))) (mVar 1)))))))
def sem__law_take : CM := mkSem 2 6 b__law_take
theorem ok__law_take (T : Txt K mg) {f : Addr} {fd : FuncData} (F : Fun K "_law_take" "_law_take" s__law_take f fd) : FnOk P w K mg base CX0 1 f fd ["bag", "many"] (liftSp K mg 2 sem__law_take) :=
  fn_w (k := 0) (N := N__law_take) F sc__law_take fun cdv A outer s H E hr => by
    unfold b__law_take
    exact (wss_cons (ws_if (PWw.pt (ww_and (wt_cmp (o_eq hr.units) (w_ix i_ix (w_var 0) (w_int)) (w_int)) (ww_and1 (wt_cmp o_gt (w_ix i_ix (w_var 0) (w_int)) (w_int))))) (wss_cons (ws_set (i := 2) sc__law_take.nd (w_op o_mod (w_callTy c_int (by rfl) T.z_int (by decide +kernel) (wa_cons (w_ix i_ix (w_var 0) (w_int)) (wa_nil))) (w_var 1))) (wss_cons (ws_asg (w_op o_fdiv (w_ix i_ix (w_var 0) (w_int)) (w_var 1)) (wg_sub t_set (w_var 0) (w_int))) (wss_one (ws_ret (w_var 2))))) (wss_nil)) (wss_cons (ws_asg (w_op o_add (w_ix i_ix (w_var 0) (w_int)) (w_int)) (wg_sub t_set (w_var 0) (w_int))) (wss_cons (ws_set (i := 3) sc__law_take.nd (w_op o_mod (w_callTy c_int (by rfl) T.z_int (by decide +kernel) (wa_cons (w_op o_add (w_op o_add (w_op o_mul (w_ix i_ix (w_var 0) (w_int)) (w_int)) (w_op o_mul (w_ix i_ix (w_var 0) (w_int)) (w_int))) (w_int)) (wa_nil))) (w_int))) (wss_cons (ws_set (i := 4) sc__law_take.nd (w_op o_mod (w_callTy c_int (by rfl) T.z_int (by decide +kernel) (wa_cons (w_op o_add (w_op o_mul (w_var 3) (w_var 3)) (w_op o_mul (w_ix i_ix (w_var 0) (w_int)) (w_int))) (wa_nil))) (w_int))) (wss_cons (ws_set (i := 5) sc__law_take.nd (w_op o_mod (w_callTy c_int (by rfl) T.z_int (by decide +kernel) (wa_cons (w_op o_add (w_op o_mul (w_var 4) (w_var 4)) (w_var 3)) (wa_nil))) (w_int))) (wss_one (ws_ret (w_op o_mod (w_callTy c_int (by rfl) T.z_int (by decide +kernel) (wa_cons (w_op o_fdiv (w_var 5) (w_int)) (wa_nil))) (w_var 1)))))))))
theorem d__law_take (T : Txt K mg) : Def P w K mg base 1 "_law_take" 2 sem__law_take := by
  obtain ⟨f, fd, F, g⟩ := T.f__law_take
  exact ⟨f, fd, ["bag", "many"], ok__law_take T F, rfl, g, F.kp, F.binds (ps := ["bag", "many"]) fun _ _ _ _ _ _ us hl => match us, hl with | [_, _], _ => rfl⟩
/-! _law_pick -/
abbrev s__law_pick : Stmt := (top 10)
abbrev N__law_pick : List Str := ["bag", "menu"]
theorem sc__law_pick : FnScope N__law_pick ["bag", "menu"] (defScope s__law_pick) := ⟨rfl, rfl, rfl, by decide +kernel, rfl, by decide +kernel, by decide +kernel⟩
def b__law_pick : SM := mRet (mOp ixW (mVar 1) (mF true [true, false] sem__law_take (mCons (mVar 0) (mCons (mCall lenW (mCons (mVar 1) (mNil))) (mNil)))))
def sem__law_pick : CM := mkSem 2 2 b__law_pick
theorem ok__law_pick (T : Txt K mg) {f : Addr} {fd : FuncData} (F : Fun K "_law_pick" "_law_pick" s__law_pick f fd) : FnOk P w K mg base CX0 2 f fd ["bag", "menu"] (liftSp K mg 2 sem__law_pick) :=
  fn_w (k := 1) (N := N__law_pick) F sc__law_pick fun cdv A outer s H E hr => by
    unfold b__law_pick
    exact (wss_one (ws_ret (w_ix i_ix (w_var 1) (w_call true [true, false] (d__law_take T) (hr.mono (by decide)) (by rfl) (wa_cons (w_var 0) (wa_cons (w_callB c_len (by rfl) T.z_len (by decide +kernel) (wa_cons (w_var 1) (wa_nil))) (wa_nil)))))))
theorem d__law_pick (T : Txt K mg) : Def P w K mg base 2 "_law_pick" 2 sem__law_pick := by
  obtain ⟨f, fd, F, g⟩ := T.f__law_pick
  exact ⟨f, fd, ["bag", "menu"], ok__law_pick T F, rfl, g, F.kp, F.binds (ps := ["bag", "menu"]) fun _ _ _ _ _ _ us hl => match us, hl with | [_, _], _ => rfl⟩
/-! _law_same -/
abbrev s__law_same : Stmt := (top 11)
abbrev N__law_same : List Str := ["got", "due", "k"]
theorem sc__law_same : FnScope N__law_same ["got", "due"] (defScope s__law_same) := ⟨rfl, rfl, rfl, by decide +kernel, rfl, by decide +kernel, by decide +kernel⟩
def b__law_same (self : CM) : SM := mSeq (mIf (mOrT (mTru (mCall (isiW ["Stretch"]) (mCons (mVar 1) (mCons (mC (.ty "tuple")) (mNil))))) (mTru (mCall (isiW ["Stretch"]) (mCons (mVar 1) (mCons (mC (.ty "list")) (mNil)))))) (mSeq (mIf (mOrT (mB (mOp neW (mCall (isiW ["Stretch"]) (mCons (mVar 1) (mCons (mC (.ty "tuple")) (mNil)))) (mCall (isiW ["Stretch"]) (mCons (mVar 0) (mCons (mC (.ty "tuple")) (mNil)))))) (mB (mOp neW (mCall (isiW ["Stretch"]) (mCons (mVar 1) (mCons (mC (.ty "list")) (mNil)))) (mCall (isiW ["Stretch"]) (mCons (mVar 0) (mCons (mC (.ty "list")) (mNil))))))) (mRet (mC (.bl false))) (mSkip)) (mSeq (mIf (mB (mOp neW (mCall lenW (mCons (mVar 0) (mNil))) (mCall lenW (mCons (mVar 1) (mNil))))) (mRet (mC (.bl false))) (mSkip)) (mSeq (mFor (itRg1 (mCons (mCall lenW (mCons (mVar 1) (mNil))) (mNil))) (tgN 2) (mIf (mNotT (mTru (mF true [false, false] self (mCons (mOp ixW (mVar 0) (mVar 2)) (mCons (mOp ixW (mVar 1) (mVar 2)) (mNil)))))) (mRet (mC (.bl false))) (mSkip))) (mRet (mC (.bl true)))))) (mSkip)) (mSeq (mIf (mOrT (mTru (mCall (isiW ["Stretch"]) (mCons (mVar 1) (mCons (mC (.ty "bool")) (mNil))))) (mTru (mCall (isiW ["Stretch"]) (mCons (mVar 0) (mCons (mC (.ty "bool")) (mNil)))))) (mRet (mAnd (mCall (isiW ["Stretch"]) (mCons (mVar 1) (mCons (mC (.ty "bool")) (mNil)))) (mAnd (mCall (isiW ["Stretch"]) (mCons (mVar 0) (mCons (mC (.ty "bool")) (mNil)))) (mOp eqW (mVar 0) (mVar 1))))) (mSkip)) (mSeq (mIf (mTru (mCall (isiW ["Stretch"]) (mCons (mVar 1) (mCons (mC (.ty "int")) (mNil))))) (mRet (mAnd (mCall (isiW ["Stretch"]) (mCons (mVar 0) (mCons (mC (.ty "int")) (mNil)))) (mOp eqW (mVar 0) (mVar 1)))) (mSkip)) (mSeq (mIf (mTru (mCall (isiW ["Stretch"]) (mCons (mVar 1) (mCons (mC (.ty "str")) (mNil))))) (mRet (mAnd (mCall (isiW ["Stretch"]) (mCons (mVar 0) (mCons (mC (.ty "str")) (mNil)))) (mOp eqW (mVar 0) (mVar 1)))) (mSkip)) (mRet (mAnd (mOp isNW (mVar 0) (mC .non)) (mOp isNW (mVar 1) (mC .non)))))))
def sem__law_same : Nat → CM
  | 0 => fun _ _ => none
  | n + 1 => mkSem 2 3 (b__law_same (sem__law_same n))
theorem ok0__law_same {f : Addr} {fd : FuncData} : FnOk P w K mg base CX0 1 f fd ["got", "due"] (liftSp K mg 2 (sem__law_same 0)) := ⟨fun vs H Q E h => h.1, fun A outer s H args us vs Q E hr e b v h => by
  obtain ⟨_, _, _, _, _, _, _, _, _, h, _⟩ := h
  cases h⟩
theorem d__law_same (T : Txt K mg) : ∀ n, Def P w K mg base (1 + n) "_law_same" 2 (sem__law_same n)
  | 0 => by
    obtain ⟨f, fd, F, g⟩ := T.f__law_same
    exact ⟨f, fd, ["got", "due"], ok0__law_same, rfl, g, F.kp, F.binds (ps := ["got", "due"]) fun _ _ _ _ _ _ us hl => match us, hl with | [_, _], _ => rfl⟩
  | n + 1 => by
    have ih := d__law_same T n
    obtain ⟨f, fd, F, g⟩ := T.f__law_same
    refine ⟨f, fd, ["got", "due"], fn_w (k := 1 + n) (N := N__law_same) F sc__law_same fun cdv A outer s H E hr => ?_, rfl, g, F.kp, F.binds (ps := ["got", "due"]) fun _ _ _ _ _ _ us hl => match us, hl with | [_, _], _ => rfl⟩
    unfold b__law_same
    exact (wss_cons (ws_if (PWw.pt (ww_or (wt_tru (w_callB (c_isi ["Stretch"] (x_cls T)) (by rfl) T.z_isinstance PyProof.Rows.boot_isinstance (wa_cons (w_var 1) (wa_cons (w_ty (T := "tuple") (by rfl) T.z_tuple (by decide +kernel)) (wa_nil))))) (ww_or1 (wt_tru (w_callB (c_isi ["Stretch"] (x_cls T)) (by rfl) T.z_isinstance PyProof.Rows.boot_isinstance (wa_cons (w_var 1) (wa_cons (w_ty (T := "list") (by rfl) T.z_list (by decide +kernel)) (wa_nil)))))))) (wss_cons (ws_if (PWw.pt (ww_or (wt_cmp (o_ne hr.units) (w_callB (c_isi ["Stretch"] (x_cls T)) (by rfl) T.z_isinstance PyProof.Rows.boot_isinstance (wa_cons (w_var 1) (wa_cons (w_ty (T := "tuple") (by rfl) T.z_tuple (by decide +kernel)) (wa_nil)))) (w_callB (c_isi ["Stretch"] (x_cls T)) (by rfl) T.z_isinstance PyProof.Rows.boot_isinstance (wa_cons (w_var 0) (wa_cons (w_ty (T := "tuple") (by rfl) T.z_tuple (by decide +kernel)) (wa_nil))))) (ww_or1 (wt_cmp (o_ne hr.units) (w_callB (c_isi ["Stretch"] (x_cls T)) (by rfl) T.z_isinstance PyProof.Rows.boot_isinstance (wa_cons (w_var 1) (wa_cons (w_ty (T := "list") (by rfl) T.z_list (by decide +kernel)) (wa_nil)))) (w_callB (c_isi ["Stretch"] (x_cls T)) (by rfl) T.z_isinstance PyProof.Rows.boot_isinstance (wa_cons (w_var 0) (wa_cons (w_ty (T := "list") (by rfl) T.z_list (by decide +kernel)) (wa_nil)))))))) (wss_one (ws_ret (w_bl))) (wss_nil)) (wss_cons (ws_if (wt_cmp (o_ne hr.units) (w_callB c_len (by rfl) T.z_len (by decide +kernel) (wa_cons (w_var 0) (wa_nil))) (w_callB c_len (by rfl) T.z_len (by decide +kernel) (wa_cons (w_var 1) (wa_nil)))) (wss_one (ws_ret (w_bl))) (wss_nil)) (wss_cons (ws_for PassesOwn.never rfl (wi_rg1 (by rfl) T.z_range (wa_cons (w_callB c_len (by rfl) T.z_len (by decide +kernel) (wa_cons (w_var 1) (wa_nil))) (wa_nil))) (wg_name (i := 2) sc__law_same.nd) (wss_one (ws_if (wt_not (wt_tru (w_call true [false, false] ih hr (by rfl) (wa_cons (w_ix i_ix (w_var 0) (w_var 2)) (wa_cons (w_ix i_ix (w_var 1) (w_var 2)) (wa_nil)))))) (wss_one (ws_ret (w_bl))) (wss_nil)))) (wss_one (ws_ret (w_bl)))))) (wss_nil)) (wss_cons (ws_if (PWw.pt (ww_or (wt_tru (w_callB (c_isi ["Stretch"] (x_cls T)) (by rfl) T.z_isinstance PyProof.Rows.boot_isinstance (wa_cons (w_var 1) (wa_cons (w_ty (T := "bool") (by rfl) T.z_bool (by decide +kernel)) (wa_nil))))) (ww_or1 (wt_tru (w_callB (c_isi ["Stretch"] (x_cls T)) (by rfl) T.z_isinstance PyProof.Rows.boot_isinstance (wa_cons (w_var 0) (wa_cons (w_ty (T := "bool") (by rfl) T.z_bool (by decide +kernel)) (wa_nil)))))))) (wss_one (ws_ret (w_and (w_callB (c_isi ["Stretch"] (x_cls T)) (by rfl) T.z_isinstance PyProof.Rows.boot_isinstance (wa_cons (w_var 1) (wa_cons (w_ty (T := "bool") (by rfl) T.z_bool (by decide +kernel)) (wa_nil)))) (w_and (w_callB (c_isi ["Stretch"] (x_cls T)) (by rfl) T.z_isinstance PyProof.Rows.boot_isinstance (wa_cons (w_var 0) (wa_cons (w_ty (T := "bool") (by rfl) T.z_bool (by decide +kernel)) (wa_nil)))) (w_one (w_cmp (o_eq hr.units) (w_var 0) (w_var 1))))))) (wss_nil)) (wss_cons (ws_if (wt_tru (w_callB (c_isi ["Stretch"] (x_cls T)) (by rfl) T.z_isinstance PyProof.Rows.boot_isinstance (wa_cons (w_var 1) (wa_cons (w_ty (T := "int") (by rfl) T.z_int (by decide +kernel)) (wa_nil))))) (wss_one (ws_ret (w_and (w_callB (c_isi ["Stretch"] (x_cls T)) (by rfl) T.z_isinstance PyProof.Rows.boot_isinstance (wa_cons (w_var 0) (wa_cons (w_ty (T := "int") (by rfl) T.z_int (by decide +kernel)) (wa_nil)))) (w_one (w_cmp (o_eq hr.units) (w_var 0) (w_var 1)))))) (wss_nil)) (wss_cons (ws_if (wt_tru (w_callB (c_isi ["Stretch"] (x_cls T)) (by rfl) T.z_isinstance PyProof.Rows.boot_isinstance (wa_cons (w_var 1) (wa_cons (w_ty (T := "str") (by rfl) T.z_str (by decide +kernel)) (wa_nil))))) (wss_one (ws_ret (w_and (w_callB (c_isi ["Stretch"] (x_cls T)) (by rfl) T.z_isinstance PyProof.Rows.boot_isinstance (wa_cons (w_var 0) (wa_cons (w_ty (T := "str") (by rfl) T.z_str (by decide +kernel)) (wa_nil)))) (w_one (w_cmp (o_eq hr.units) (w_var 0) (w_var 1)))))) (wss_nil)) (wss_one (ws_ret (w_and (w_cmp o_isN (w_var 0) (w_non)) (w_one (w_cmp o_isN (w_var 1) (w_non))))))))))
/-! _law_end -/
abbrev s__law_end : Stmt := (top 12)
abbrev N__law_end : List Str := ["bag", "way"]
theorem sc__law_end : FnScope N__law_end ["bag"] (defScope s__law_end) := ⟨rfl, rfl, rfl, by decide +kernel, rfl, by decide +kernel, by decide +kernel⟩
def b__law_end : SM := mSeq (mAsg (mF true [true, false] sem__law_take (mCons (mVar 0) (mCons (mC (.int 7)) (mNil)))) (tgN 1)) (mSeq (mIf (mB (mOp ltW (mVar 1) (mC (.int 4)))) (mRet (mOp subW (mF true [true, false] sem__law_take (mCons (mVar 0) (mCons (mC (.int 13)) (mNil)))) (mC (.int 6)))) (mSkip)) (mSeq (mIf (mB (mOp eqW (mVar 1) (mC (.int 4)))) (mRet (mOp subW (mOp addW (mF true [true, false] sem__law_pick (mCons (mVar 0) (mCons (mLst (mCons (mC (.int 0)) (mCons (mC (.int 999999)) (mCons (mUn negW (mC (.int 999999))) (mNil))))) (mNil)))) (mF true [true, false] sem__law_take (mCons (mVar 0) (mCons (mC (.int 5)) (mNil))))) (mC (.int 2)))) (mSkip)) (mSeq (mIf (mB (mOp eqW (mVar 1) (mC (.int 5)))) (mRet (mOp subW (mF true [true, false] sem__law_take (mCons (mVar 0) (mCons (mC (.int 2000003)) (mNil)))) (mC (.int 1000001)))) (mSkip)) (mRet (mOp mulW (mF true [true, false] sem__law_pick (mCons (mVar 0) (mCons (mLst (mCons (mC (.int 1)) (mCons (mUn negW (mC (.int 1))) (mNil)))) (mNil)))) (mF true [true, false] sem__law_take (mCons (mVar 0) (mCons (mOp powW (mC (.int 10)) (mC (.int 40))) (mNil)))))))))
def sem__law_end : CM := mkSem 1 2 b__law_end
theorem ok__law_end (T : Txt K mg) {f : Addr} {fd : FuncData} (F : Fun K "_law_end" "_law_end" s__law_end f fd) : FnOk P w K mg base CX0 3 f fd ["bag"] (liftSp K mg 1 sem__law_end) :=
  fn_w (k := 2) (N := N__law_end) F sc__law_end fun cdv A outer s H E hr => by
    unfold b__law_end
    exact (wss_cons (ws_set (i := 1) sc__law_end.nd (w_call true [true, false] (d__law_take T) (hr.mono (by decide)) (by rfl) (wa_cons (w_var 0) (wa_cons (w_int) (wa_nil))))) (wss_cons (ws_if (wt_cmp o_lt (w_var 1) (w_int)) (wss_one (ws_ret (w_op o_sub (w_call true [true, false] (d__law_take T) (hr.mono (by decide)) (by rfl) (wa_cons (w_var 0) (wa_cons (w_int) (wa_nil)))) (w_int)))) (wss_nil)) (wss_cons (ws_if (wt_cmp (o_eq hr.units) (w_var 1) (w_int)) (wss_one (ws_ret (w_op o_sub (w_op o_add (w_call true [true, false] (d__law_pick T) (hr.mono (by decide)) (by rfl) (wa_cons (w_var 0) (wa_cons (w_lst (wa_cons (w_int) (wa_cons (w_int) (wa_cons (w_un u_neg (w_int)) (wa_nil))))) (wa_nil)))) (w_call true [true, false] (d__law_take T) (hr.mono (by decide)) (by rfl) (wa_cons (w_var 0) (wa_cons (w_int) (wa_nil))))) (w_int)))) (wss_nil)) (wss_cons (ws_if (wt_cmp (o_eq hr.units) (w_var 1) (w_int)) (wss_one (ws_ret (w_op o_sub (w_call true [true, false] (d__law_take T) (hr.mono (by decide)) (by rfl) (wa_cons (w_var 0) (wa_cons (w_int) (wa_nil)))) (w_int)))) (wss_nil)) (wss_one (ws_ret (w_op o_mul (w_call true [true, false] (d__law_pick T) (hr.mono (by decide)) (by rfl) (wa_cons (w_var 0) (wa_cons (w_lst (wa_cons (w_int) (wa_cons (w_un u_neg (w_int)) (wa_nil)))) (wa_nil)))) (w_call true [true, false] (d__law_take T) (hr.mono (by decide)) (by rfl) (wa_cons (w_var 0) (wa_cons (w_op o_pow (w_int) (w_int)) (wa_nil)))))))))))
theorem d__law_end (T : Txt K mg) : Def P w K mg base 3 "_law_end" 1 sem__law_end := by
  obtain ⟨f, fd, F, g⟩ := T.f__law_end
  exact ⟨f, fd, ["bag"], ok__law_end T F, rfl, g, F.kp, F.binds (ps := ["bag"]) fun _ _ _ _ _ _ us hl => match us, hl with | [_], _ => rfl⟩
/-! _law_span -/
abbrev s__law_span : Stmt := (top 13)
abbrev N__law_span : List Str := ["bag", "one", "two"]
theorem sc__law_span : FnScope N__law_span ["bag"] (defScope s__law_span) := ⟨rfl, rfl, rfl, by decide +kernel, rfl, by decide +kernel, by decide +kernel⟩
def b__law_span : SM := mSeq (mAsg (mF true [true] sem__law_end (mCons (mVar 0) (mNil))) (tgN 1)) (mSeq (mAsg (mVar 1) (tgN 2)) (mSeq (mIf (mB (mOp gtW (mF true [true, false] sem__law_take (mCons (mVar 0) (mCons (mC (.int 4)) (mNil)))) (mC (.int 0)))) (mAsg (mF true [true] sem__law_end (mCons (mVar 0) (mNil))) (tgN 2)) (mSkip)) (mRet (mTup (mCons (mCall minW (mCons (mVar 1) (mCons (mVar 2) (mNil)))) (mCons (mCall maxW (mCons (mVar 1) (mCons (mVar 2) (mNil)))) (mNil)))))))
def sem__law_span : CM := mkSem 1 3 b__law_span
theorem ok__law_span (T : Txt K mg) {f : Addr} {fd : FuncData} (F : Fun K "_law_span" "_law_span" s__law_span f fd) : FnOk P w K mg base CX0 4 f fd ["bag"] (liftSp K mg 1 sem__law_span) :=
  fn_w (k := 3) (N := N__law_span) F sc__law_span fun cdv A outer s H E hr => by
    unfold b__law_span
    exact (wss_cons (ws_set (i := 1) sc__law_span.nd (w_call true [true] (d__law_end T) (hr.mono (by decide)) (by rfl) (wa_cons (w_var 0) (wa_nil)))) (wss_cons (ws_set (i := 2) sc__law_span.nd (w_var 1)) (wss_cons (ws_if (wt_cmp o_gt (w_call true [true, false] (d__law_take T) (hr.mono (by decide)) (by rfl) (wa_cons (w_var 0) (wa_cons (w_int) (wa_nil)))) (w_int)) (wss_one (ws_set (i := 2) sc__law_span.nd (w_call true [true] (d__law_end T) (hr.mono (by decide)) (by rfl) (wa_cons (w_var 0) (wa_nil))))) (wss_nil)) (wss_one (ws_ret (w_tup (wa_cons (w_callB (c_min rfl) (by rfl) T.z_min (by decide +kernel) (wa_cons (w_var 1) (wa_cons (w_var 2) (wa_nil)))) (wa_cons (w_callB (c_max rfl) (by rfl) T.z_max (by decide +kernel) (wa_cons (w_var 1) (wa_cons (w_var 2) (wa_nil)))) (wa_nil)))))))))
theorem d__law_span (T : Txt K mg) : Def P w K mg base 4 "_law_span" 1 sem__law_span := by
  obtain ⟨f, fd, F, g⟩ := T.f__law_span
  exact ⟨f, fd, ["bag"], ok__law_span T F, rfl, g, F.kp, F.binds (ps := ["bag"]) fun _ _ _ _ _ _ us hl => match us, hl with | [_], _ => rfl⟩
/-! _law_some -/
abbrev s__law_some : Stmt := (top 14)
abbrev N__law_some : List Str := ["bag", "span", "wide", "k"]
theorem sc__law_some : FnScope N__law_some ["bag", "span"] (defScope s__law_some) := ⟨rfl, rfl, rfl, by decide +kernel, rfl, by decide +kernel, by decide +kernel⟩
def b__law_some : SM := mSeq (mAsg (mOp addW (mOp subW (mOp ixW (mVar 1) (mC (.int 1))) (mOp ixW (mVar 1) (mC (.int 0)))) (mC (.int 1))) (tgN 2)) (mSeq (mIf (mB (mOp leW (mVar 2) (mC (.int 6)))) (mRet (mLc [3] (itRg1 (mCons (mVar 2) (mNil))) (tgN 3) (mYes) (mOp addW (mOp ixW (mVar 1) (mC (.int 0))) (mVar 3)))) (mSkip)) (mRet (mLst (mCons (mOp ixW (mVar 1) (mC (.int 0))) (mCons (mOp addW (mOp ixW (mVar 1) (mC (.int 0))) (mC (.int 1))) (mCons (mOp addW (mOp ixW (mVar 1) (mC (.int 0))) (mF true [true, false] sem__law_take (mCons (mVar 0) (mCons (mVar 2) (mNil))))) (mCons (mOp subW (mOp ixW (mVar 1) (mC (.int 1))) (mC (.int 1))) (mCons (mOp ixW (mVar 1) (mC (.int 1))) (mNil)))))))))
def sem__law_some : CM := mkSem 2 4 b__law_some
theorem ok__law_some (T : Txt K mg) {f : Addr} {fd : FuncData} (F : Fun K "_law_some" "_law_some" s__law_some f fd) : FnOk P w K mg base CX0 2 f fd ["bag", "span"] (liftSp K mg 2 sem__law_some) :=
  fn_w (k := 1) (N := N__law_some) F sc__law_some fun cdv A outer s H E hr => by
    unfold b__law_some
    exact (wss_cons (ws_set (i := 2) sc__law_some.nd (w_op o_add (w_op o_sub (w_ix i_ix (w_var 1) (w_int)) (w_ix i_ix (w_var 1) (w_int))) (w_int))) (wss_cons (ws_if (wt_cmp o_le (w_var 2) (w_int)) (wss_one (ws_ret (w_lc (own := [("k", 3)]) rfl sc__law_some.nd (wi_rg1 (by rfl) T.z_range (wa_cons (w_var 2) (wa_nil))) (blkOk_by (own := [("k", 3)]) (N := N__law_some) (sc := defScope s__law_some) (by decide +kernel)) (fun _ _ _ _ _ => wg_name (i := 3) sc__law_some.nd) (fun _ _ _ _ _ => wts_nil) (fun _ _ _ _ _ => w_op o_add (w_ix i_ix (w_var 1) (w_int)) (w_var 3))))) (wss_nil)) (wss_one (ws_ret (w_lst (wa_cons (w_ix i_ix (w_var 1) (w_int)) (wa_cons (w_op o_add (w_ix i_ix (w_var 1) (w_int)) (w_int)) (wa_cons (w_op o_add (w_ix i_ix (w_var 1) (w_int)) (w_call true [true, false] (d__law_take T) (hr.mono (by decide)) (by rfl) (wa_cons (w_var 0) (wa_cons (w_var 2) (wa_nil))))) (wa_cons (w_op o_sub (w_ix i_ix (w_var 1) (w_int)) (w_int)) (wa_cons (w_ix i_ix (w_var 1) (w_int)) (wa_nil)))))))))))
theorem d__law_some (T : Txt K mg) : Def P w K mg base 2 "_law_some" 2 sem__law_some := by
  obtain ⟨f, fd, F, g⟩ := T.f__law_some
  exact ⟨f, fd, ["bag", "span"], ok__law_some T F, rfl, g, F.kp, F.binds (ps := ["bag", "span"]) fun _ _ _ _ _ _ us hl => match us, hl with | [_, _], _ => rfl⟩
/-! _law_outcome -/
abbrev s__law_outcome : Stmt := (top 15)
abbrev N__law_outcome : List Str := ["name", "x", "y", "n"]
theorem sc__law_outcome : FnScope N__law_outcome ["name", "x", "y", "n"] (defScope s__law_outcome) := ⟨rfl, rfl, rfl, by decide +kernel, rfl, by decide +kernel, by decide +kernel⟩
def b__law_outcome : SM := mSeq (mIf (mB (mOp eqW (mVar 0) (mC (.str (Str.ofString "point"))))) (mRet (mVar 3)) (mSkip)) (mSeq (mIf (mB (mOp eqW (mVar 0) (mC (.str (Str.ofString "saturated"))))) (mRet (mCall maxW (mCons (mC (.int 0)) (mCons (mCall minW (mCons (mCall absW (mCons (mVar 3) (mNil))) (mCons (mVar 1) (mNil)))) (mNil))))) (mSkip)) (mSeq (mIf (mB (mOp inW (mVar 0) (mTup (mCons (mC (.str (Str.ofString "least"))) (mCons (mC (.str (Str.ofString "greatest"))) (mNil)))))) (mRet (mOp dgetW (mDisp [(mC (.str (Str.ofString "least")), mCall minW (mCons (mVar 1) (mCons (mVar 2) (mNil)))), (mC (.str (Str.ofString "greatest")), mCall maxW (mCons (mVar 1) (mCons (mVar 2) (mNil))))]) (mVar 0))) (mSkip)) (mRet (mCall maxW (mCons (mUn negW (mC (.int 999999))) (mCons (mCall minW (mCons (mC (.int 999999)) (mCons (mOp dgetW (mDisp [(mC (.str (Str.ofString "add")), mOp addW (mVar 1) (mVar 2)), (mC (.str (Str.ofString "sub")), mOp subW (mVar 1) (mVar 2)), (mC (.str (Str.ofString "mul")), mOp mulW (mVar 1) (mVar 2))]) (mVar 0)) (mNil)))) (mNil)))))))
def sem__law_outcome : CM := mkSem 4 4 b__law_outcome
theorem ok__law_outcome (T : Txt K mg) {f : Addr} {fd : FuncData} (F : Fun K "_law_outcome" "_law_outcome" s__law_outcome f fd) : FnOk P w K mg base CX0 1 f fd ["name", "x", "y", "n"] (liftSp K mg 4 sem__law_outcome) :=
  fn_w (k := 0) (N := N__law_outcome) F sc__law_outcome fun cdv A outer s H E hr => by
    unfold b__law_outcome
    exact (wss_cons (ws_if (wt_cmp (o_eq hr.units) (w_var 0) (w_str)) (wss_one (ws_ret (w_var 3))) (wss_nil)) (wss_cons (ws_if (wt_cmp (o_eq hr.units) (w_var 0) (w_str)) (wss_one (ws_ret (w_callB (c_max rfl) (by rfl) T.z_max (by decide +kernel) (wa_cons (w_int) (wa_cons (w_callB (c_min rfl) (by rfl) T.z_min (by decide +kernel) (wa_cons (w_callB c_abs (by rfl) T.z_abs (by decide +kernel) (wa_cons (w_var 3) (wa_nil))) (wa_cons (w_var 1) (wa_nil)))) (wa_nil)))))) (wss_nil)) (wss_cons (ws_if (wt_cmp o_in (w_var 0) (w_tup (wa_cons (w_str) (wa_cons (w_str) (wa_nil))))) (wss_one (ws_ret (w_dget (hu_of hr) (w_disp (wp_cons (w_str) (w_callB (c_min rfl) (by rfl) T.z_min (by decide +kernel) (wa_cons (w_var 1) (wa_cons (w_var 2) (wa_nil)))) (wp_cons (w_str) (w_callB (c_max rfl) (by rfl) T.z_max (by decide +kernel) (wa_cons (w_var 1) (wa_cons (w_var 2) (wa_nil)))) (wp_nil)))) (w_var 0)))) (wss_nil)) (wss_one (ws_ret (w_callB (c_max rfl) (by rfl) T.z_max (by decide +kernel) (wa_cons (w_un u_neg (w_int)) (wa_cons (w_callB (c_min rfl) (by rfl) T.z_min (by decide +kernel) (wa_cons (w_int) (wa_cons (w_dget (hu_of hr) (w_disp (wp_cons (w_str) (w_op o_add (w_var 1) (w_var 2)) (wp_cons (w_str) (w_op o_sub (w_var 1) (w_var 2)) (wp_cons (w_str) (w_op o_mul (w_var 1) (w_var 2)) (wp_nil))))) (w_var 0)) (wa_nil)))) (wa_nil)))))))))
theorem d__law_outcome (T : Txt K mg) : Def P w K mg base 1 "_law_outcome" 4 sem__law_outcome := by
  obtain ⟨f, fd, F, g⟩ := T.f__law_outcome
  exact ⟨f, fd, ["name", "x", "y", "n"], ok__law_outcome T F, rfl, g, F.kp, F.binds (ps := ["name", "x", "y", "n"]) fun _ _ _ _ _ _ us hl => match us, hl with | [_, _, _, _], _ => rfl⟩
/-! _law_outcomes -/
abbrev s__law_outcomes : Stmt := (top 16)
abbrev N__law_outcomes : List Str := ["name", "xs", "ys", "n", "rows", "x", "y"]
theorem sc__law_outcomes : FnScope N__law_outcomes ["name", "xs", "ys", "n"] (defScope s__law_outcomes) := ⟨rfl, rfl, rfl, by decide +kernel, rfl, by decide +kernel, by decide +kernel⟩
def b__law_outcomes : SM := mSeq (mIf (mB (mOp eqW (mVar 0) (mC (.str (Str.ofString "hull"))))) (mRet (mOp addW (mVar 1) (mVar 2))) (mSkip)) (mSeq (mAsg (mLstM (mNil)) (tgN 4)) (mSeq (mFor (itSeq (mVar 1)) (tgN 5) (mExpr (mBM extendW (mVar 4) (mCons (mLc [6] (itSeq (mVar 2)) (tgN 6) (mYes) (mF true [false, false, false, false] sem__law_outcome (mCons (mVar 0) (mCons (mVar 5) (mCons (mVar 6) (mCons (mVar 3) (mNil))))))) (mNil))))) (mRet (mVar 4))))
def sem__law_outcomes : CM := mkSem 4 7 b__law_outcomes
theorem ok__law_outcomes (T : Txt K mg) {f : Addr} {fd : FuncData} (F : Fun K "_law_outcomes" "_law_outcomes" s__law_outcomes f fd) : FnOk P w K mg base CX0 2 f fd ["name", "xs", "ys", "n"] (liftSp K mg 4 sem__law_outcomes) :=
  fn_w (k := 1) (N := N__law_outcomes) F sc__law_outcomes fun cdv A outer s H E hr => by
    unfold b__law_outcomes
    exact (wss_cons (ws_if (wt_cmp (o_eq hr.units) (w_var 0) (w_str)) (wss_one (ws_ret (w_op o_add (w_var 1) (w_var 2)))) (wss_nil)) (wss_cons (ws_set (i := 4) sc__law_outcomes.nd (w_lstM (wa_nil))) (wss_cons (ws_for PassesOwn.never rfl (wi_seq (w_var 1)) (wg_name (i := 5) sc__law_outcomes.nd) (wss_one (ws_expr (w_bm m_extend PySem.F.slot_list_extend PySem.F.type_list_extend (w_var 4) (wa_cons (w_lc (own := [("y", 6)]) rfl sc__law_outcomes.nd (wi_seq (w_var 2)) (blkOk_by (own := [("y", 6)]) (N := N__law_outcomes) (sc := defScope s__law_outcomes) (by decide +kernel)) (fun _ _ _ _ _ => wg_name (i := 6) sc__law_outcomes.nd) (fun _ _ _ _ _ => wts_nil) (fun _ _ _ _ _ => w_call true [false, false, false, false] (d__law_outcome T) (hr.mono (by decide)) (by rfl) (wa_cons (w_var 0) (wa_cons (w_var 5) (wa_cons (w_var 6) (wa_cons (w_var 3) (wa_nil))))))) (wa_nil)))))) (wss_one (ws_ret (w_var 4))))))
theorem d__law_outcomes (T : Txt K mg) : Def P w K mg base 2 "_law_outcomes" 4 sem__law_outcomes := by
  obtain ⟨f, fd, F, g⟩ := T.f__law_outcomes
  exact ⟨f, fd, ["name", "xs", "ys", "n"], ok__law_outcomes T F, rfl, g, F.kp, F.binds (ps := ["name", "xs", "ys", "n"]) fun _ _ _ _ _ _ us hl => match us, hl with | [_, _, _, _], _ => rfl⟩
/-! _law_made -/
abbrev s__law_made : Stmt := (top 17)
abbrev N__law_made : List Str := ["name", "one", "two", "n"]
theorem sc__law_made : FnScope N__law_made ["name", "one", "two", "n"] (defScope s__law_made) := ⟨rfl, rfl, rfl, by decide +kernel, rfl, by decide +kernel, by decide +kernel⟩
def b__law_made : SM := mSeq (mIf (mB (mOp eqW (mVar 0) (mC (.str (Str.ofString "add"))))) (mRet (mOp (ownW "Stretch" sem_Stretch___add__) (mVar 1) (mVar 2))) (mSkip)) (mSeq (mIf (mB (mOp eqW (mVar 0) (mC (.str (Str.ofString "sub"))))) (mRet (mOp (ownW "Stretch" sem_Stretch___sub__) (mVar 1) (mVar 2))) (mSkip)) (mSeq (mIf (mB (mOp eqW (mVar 0) (mC (.str (Str.ofString "mul"))))) (mRet (mOp (ownW "Stretch" sem_Stretch___mul__) (mVar 1) (mVar 2))) (mSkip)) (mSeq (mIf (mB (mOp eqW (mVar 0) (mC (.str (Str.ofString "hull"))))) (mRet (mOp (ownW "Stretch" sem_Stretch___or__) (mVar 1) (mVar 2))) (mSkip)) (mSeq (mIf (mB (mOp eqW (mVar 0) (mC (.str (Str.ofString "least"))))) (mRet (mM true "Stretch" "least" [false, false] sem_Stretch_least (mVar 1) (mCons (mVar 2) (mNil)))) (mSkip)) (mSeq (mIf (mB (mOp eqW (mVar 0) (mC (.str (Str.ofString "greatest"))))) (mRet (mM true "Stretch" "greatest" [false, false] sem_Stretch_greatest (mVar 1) (mCons (mVar 2) (mNil)))) (mSkip)) (mSeq (mIf (mB (mOp eqW (mVar 0) (mC (.str (Str.ofString "saturated"))))) (mRet (mM true "Stretch" "saturated" [false, false] sem_Stretch_saturated (mVar 1) (mCons (mCall absW (mCons (mVar 3) (mNil))) (mNil)))) (mSkip)) (mRet (mF true [false] sem_Stretch_point (mCons (mVar 3) (mNil))))))))))
def sem__law_made : CM := mkSem 4 4 b__law_made
theorem ok__law_made (T : Txt K mg) {f : Addr} {fd : FuncData} (F : Fun K "_law_made" "_law_made" s__law_made f fd) : FnOk P w K mg base CX0 4 f fd ["name", "one", "two", "n"] (liftSp K mg 4 sem__law_made) :=
  fn_w (k := 3) (N := N__law_made) F sc__law_made fun cdv A outer s H E hr => by
    unfold b__law_made
    exact (wss_cons (ws_if (wt_cmp (o_eq hr.units) (w_var 0) (w_str)) (wss_one (ws_ret (w_op (o_own (op := .Add) (o_Stretch___add__ T) (hr.mono (by decide))) (w_var 1) (w_var 2)))) (wss_nil)) (wss_cons (ws_if (wt_cmp (o_eq hr.units) (w_var 0) (w_str)) (wss_one (ws_ret (w_op (o_own (op := .Sub) (o_Stretch___sub__ T) (hr.mono (by decide))) (w_var 1) (w_var 2)))) (wss_nil)) (wss_cons (ws_if (wt_cmp (o_eq hr.units) (w_var 0) (w_str)) (wss_one (ws_ret (w_op (o_own (op := .Mult) (o_Stretch___mul__ T) (hr.mono (by decide))) (w_var 1) (w_var 2)))) (wss_nil)) (wss_cons (ws_if (wt_cmp (o_eq hr.units) (w_var 0) (w_str)) (wss_one (ws_ret (w_op (o_own (op := .BitOr) (o_Stretch___or__ T) (hr.mono (by decide))) (w_var 1) (w_var 2)))) (wss_nil)) (wss_cons (ws_if (wt_cmp (o_eq hr.units) (w_var 0) (w_str)) (wss_one (ws_ret (w_meth (f := "least") true "Stretch" [false, false] (h_Stretch_least T) (hr.mono (by decide)) (w_var 1) (wa_cons (w_var 2) (wa_nil))))) (wss_nil)) (wss_cons (ws_if (wt_cmp (o_eq hr.units) (w_var 0) (w_str)) (wss_one (ws_ret (w_meth (f := "greatest") true "Stretch" [false, false] (h_Stretch_greatest T) (hr.mono (by decide)) (w_var 1) (wa_cons (w_var 2) (wa_nil))))) (wss_nil)) (wss_cons (ws_if (wt_cmp (o_eq hr.units) (w_var 0) (w_str)) (wss_one (ws_ret (w_meth (f := "saturated") true "Stretch" [false, false] (h_Stretch_saturated T) (hr.mono (by decide)) (w_var 1) (wa_cons (w_callB c_abs (by rfl) T.z_abs (by decide +kernel) (wa_cons (w_var 3) (wa_nil))) (wa_nil))))) (wss_nil)) (wss_one (ws_ret (w_static (f := "point") true "Stretch" [false] (y_Stretch_point T) (hr.mono (by decide)) (by rfl) (wa_cons (w_var 3) (wa_nil))))))))))))
theorem d__law_made (T : Txt K mg) : Def P w K mg base 4 "_law_made" 4 sem__law_made := by
  obtain ⟨f, fd, F, g⟩ := T.f__law_made
  exact ⟨f, fd, ["name", "one", "two", "n"], ok__law_made T F, rfl, g, F.kp, F.binds (ps := ["name", "one", "two", "n"]) fun _ _ _ _ _ _ us hl => match us, hl with | [_, _, _, _], _ => rfl⟩
/-! _law_stands -/
abbrev s__law_stands : Stmt := (top 18)
abbrev N__law_stands : List Str := ["thing", "span", "told"]
theorem sc__law_stands : FnScope N__law_stands ["thing", "span"] (defScope s__law_stands) := ⟨rfl, rfl, rfl, by decide +kernel, rfl, by decide +kernel, by decide +kernel⟩
def b__law_stands : SM := mSeq (mIf (mNotT (mTru (mCall (isiW ["Stretch"]) (mCons (mVar 0) (mCons (mC (.glo "Stretch")) (mNil)))))) (mRet (mC (.bl false))) (mSkip)) (mSeq (mAsg (mTup (mCons (mUn (attrW ["Stretch"] "low") (mVar 0)) (mCons (mUn (attrW ["Stretch"] "high") (mVar 0)) (mCons (mM true "Stretch" "pair" [false] sem_Stretch_pair (mVar 0) mNil) (mCons (mM true "Stretch" "is_point" [false] sem_Stretch_is_point (mVar 0) mNil) (mNil)))))) (tgN 2)) (mRet (mF true [false, false] (sem__law_same 6) (mCons (mVar 2) (mCons (mTup (mCons (mOp ixW (mVar 1) (mC (.int 0))) (mCons (mOp ixW (mVar 1) (mC (.int 1))) (mCons (mVar 1) (mCons (mOp eqW (mOp ixW (mVar 1) (mC (.int 0))) (mOp ixW (mVar 1) (mC (.int 1)))) (mNil)))))) (mNil))))))
def sem__law_stands : CM := mkSem 2 3 b__law_stands
theorem ok__law_stands (T : Txt K mg) {f : Addr} {fd : FuncData} (F : Fun K "_law_stands" "_law_stands" s__law_stands f fd) : FnOk P w K mg base CX0 8 f fd ["thing", "span"] (liftSp K mg 2 sem__law_stands) :=
  fn_w (k := 7) (N := N__law_stands) F sc__law_stands fun cdv A outer s H E hr => by
    unfold b__law_stands
    exact (wss_cons (ws_if (wt_not (wt_tru (w_callB (c_isi ["Stretch"] (x_cls T)) (by rfl) T.z_isinstance PyProof.Rows.boot_isinstance (wa_cons (w_var 0) (wa_cons (w_gloE (x := "Stretch") (by rfl) (e_Stretch T)) (wa_nil)))))) (wss_one (ws_ret (w_bl))) (wss_nil)) (wss_cons (ws_set (i := 2) sc__law_stands.nd (w_tup (wa_cons (w_attr (f := "low") ["Stretch"] (a_low T) (w_var 0)) (wa_cons (w_attr (f := "high") ["Stretch"] (a_high T) (w_var 0)) (wa_cons (w_meth0 (f := "pair") true "Stretch" [false] (h_Stretch_pair T) (hr.mono (by decide)) (w_var 0)) (wa_cons (w_meth0 (f := "is_point") true "Stretch" [false] (h_Stretch_is_point T) (hr.mono (by decide)) (w_var 0)) (wa_nil))))))) (wss_one (ws_ret (w_call true [false, false] (d__law_same T 6) (hr.mono (by decide)) (by rfl) (wa_cons (w_var 2) (wa_cons (w_tup (wa_cons (w_ix i_ix (w_var 1) (w_int)) (wa_cons (w_ix i_ix (w_var 1) (w_int)) (wa_cons (w_var 1) (wa_cons (w_cmp (o_eq hr.units) (w_ix i_ix (w_var 1) (w_int)) (w_ix i_ix (w_var 1) (w_int))) (wa_nil)))))) (wa_nil))))))))
theorem d__law_stands (T : Txt K mg) : Def P w K mg base 8 "_law_stands" 2 sem__law_stands := by
  obtain ⟨f, fd, F, g⟩ := T.f__law_stands
  exact ⟨f, fd, ["thing", "span"], ok__law_stands T F, rfl, g, F.kp, F.binds (ps := ["thing", "span"]) fun _ _ _ _ _ _ us hl => match us, hl with | [_, _], _ => rfl⟩
/-! _law_beside -/
abbrev s__law_beside : Stmt := (top 19)
abbrev N__law_beside : List Str := ["one", "two", "a", "b", "inside"]
theorem sc__law_beside : FnScope N__law_beside ["one", "two", "a", "b"] (defScope s__law_beside) := ⟨rfl, rfl, rfl, by decide +kernel, rfl, by decide +kernel, by decide +kernel⟩
def b__law_beside : SM := mSeq (mAsg (mAnd (mOp leW (mOp ixW (mVar 3) (mC (.int 0))) (mOp ixW (mVar 2) (mC (.int 0)))) (mOp leW (mOp ixW (mVar 2) (mC (.int 1))) (mOp ixW (mVar 3) (mC (.int 1))))) (tgN 4)) (mRet (mAnd (mF true [false, false] (sem__law_same 6) (mCons (mM true "Stretch" "within" [false, false] sem_Stretch_within (mVar 0) (mCons (mVar 1) (mNil))) (mCons (mVar 4) (mNil)))) (mF true [false, false] (sem__law_same 6) (mCons (mOp (eqOwnW "Stretch" sem_Stretch___eq__) (mVar 0) (mVar 1)) (mCons (mOp eqW (mVar 2) (mVar 3)) (mNil))))))
def sem__law_beside : CM := mkSem 4 5 b__law_beside
theorem ok__law_beside (T : Txt K mg) {f : Addr} {fd : FuncData} (F : Fun K "_law_beside" "_law_beside" s__law_beside f fd) : FnOk P w K mg base CX0 8 f fd ["one", "two", "a", "b"] (liftSp K mg 4 sem__law_beside) :=
  fn_w (k := 7) (N := N__law_beside) F sc__law_beside fun cdv A outer s H E hr => by
    unfold b__law_beside
    exact (wss_cons (ws_set (i := 4) sc__law_beside.nd (w_and (w_cmp o_le (w_ix i_ix (w_var 3) (w_int)) (w_ix i_ix (w_var 2) (w_int))) (w_one (w_cmp o_le (w_ix i_ix (w_var 2) (w_int)) (w_ix i_ix (w_var 3) (w_int)))))) (wss_one (ws_ret (w_and (w_call true [false, false] (d__law_same T 6) (hr.mono (by decide)) (by rfl) (wa_cons (w_meth (f := "within") true "Stretch" [false, false] (h_Stretch_within T) (hr.mono (by decide)) (w_var 0) (wa_cons (w_var 1) (wa_nil))) (wa_cons (w_var 4) (wa_nil)))) (w_one (w_call true [false, false] (d__law_same T 6) (hr.mono (by decide)) (by rfl) (wa_cons (w_cmp (o_eqOwn (o_Stretch___eq__ T) (hr.mono (by decide))) (w_var 0) (w_var 1)) (wa_cons (w_cmp (o_eq hr.units) (w_var 2) (w_var 3)) (wa_nil)))))))))
theorem d__law_beside (T : Txt K mg) : Def P w K mg base 8 "_law_beside" 4 sem__law_beside := by
  obtain ⟨f, fd, F, g⟩ := T.f__law_beside
  exact ⟨f, fd, ["one", "two", "a", "b"], ok__law_beside T F, rfl, g, F.kp, F.binds (ps := ["one", "two", "a", "b"]) fun _ _ _ _ _ _ us hl => match us, hl with | [_, _, _, _], _ => rfl⟩
/-! _law_holds -/
abbrev s__law_holds : Stmt := (top 20)
abbrev N__law_holds : List Str := ["thing", "span", "rows", "n", "x"]
theorem sc__law_holds : FnScope N__law_holds ["thing", "span", "rows", "n"] (defScope s__law_holds) := ⟨rfl, rfl, rfl, by decide +kernel, rfl, by decide +kernel, by decide +kernel⟩
def b__law_holds : SM := mSeq (mFor (itSeq (mVar 2)) (tgN 4) (mIf (mB (mOp (notInOwnW "Stretch" sem_Stretch___contains__) (mVar 4) (mVar 0))) (mRet (mC (.bl false))) (mSkip))) (mSeq (mIf (mOrT (mB (mOp (inOwnW "Stretch" sem_Stretch___contains__) (mOp subW (mOp ixW (mVar 1) (mC (.int 0))) (mC (.int 1))) (mVar 0))) (mB (mOp (inOwnW "Stretch" sem_Stretch___contains__) (mOp addW (mOp ixW (mVar 1) (mC (.int 1))) (mC (.int 1))) (mVar 0)))) (mRet (mC (.bl false))) (mSkip)) (mRet (mOp eqW (mOp (inOwnW "Stretch" sem_Stretch___contains__) (mVar 3) (mVar 0)) (mAnd (mOp leW (mOp ixW (mVar 1) (mC (.int 0))) (mVar 3)) (mOp leW (mVar 3) (mOp ixW (mVar 1) (mC (.int 1))))))))
def sem__law_holds : CM := mkSem 4 5 b__law_holds
theorem ok__law_holds (T : Txt K mg) {f : Addr} {fd : FuncData} (F : Fun K "_law_holds" "_law_holds" s__law_holds f fd) : FnOk P w K mg base CX0 2 f fd ["thing", "span", "rows", "n"] (liftSp K mg 4 sem__law_holds) :=
  fn_w (k := 1) (N := N__law_holds) F sc__law_holds fun cdv A outer s H E hr => by
    unfold b__law_holds
    exact (wss_cons (ws_for PassesOwn.never rfl (wi_seq (w_var 2)) (wg_name (i := 4) sc__law_holds.nd) (wss_one (ws_if (wt_cmp (o_notInOwn (o_Stretch___contains__ T) (hr.mono (by decide))) (w_var 4) (w_var 0)) (wss_one (ws_ret (w_bl))) (wss_nil)))) (wss_cons (ws_if (PWw.pt (ww_or (wt_cmp (o_inOwn (o_Stretch___contains__ T) (hr.mono (by decide))) (w_op o_sub (w_ix i_ix (w_var 1) (w_int)) (w_int)) (w_var 0)) (ww_or1 (wt_cmp (o_inOwn (o_Stretch___contains__ T) (hr.mono (by decide))) (w_op o_add (w_ix i_ix (w_var 1) (w_int)) (w_int)) (w_var 0))))) (wss_one (ws_ret (w_bl))) (wss_nil)) (wss_one (ws_ret (w_cmp (o_eq hr.units) (w_cmp (o_inOwn (o_Stretch___contains__ T) (hr.mono (by decide))) (w_var 3) (w_var 0)) (w_and (w_cmp o_le (w_ix i_ix (w_var 1) (w_int)) (w_var 3)) (w_one (w_cmp o_le (w_var 3) (w_ix i_ix (w_var 1) (w_int))))))))))
theorem d__law_holds (T : Txt K mg) : Def P w K mg base 2 "_law_holds" 4 sem__law_holds := by
  obtain ⟨f, fd, F, g⟩ := T.f__law_holds
  exact ⟨f, fd, ["thing", "span", "rows", "n"], ok__law_holds T F, rfl, g, F.kp, F.binds (ps := ["thing", "span", "rows", "n"]) fun _ _ _ _ _ _ us hl => match us, hl with | [_, _, _, _], _ => rfl⟩
/-! _law_alike -/
abbrev s__law_alike : Stmt := (top 21)
abbrev N__law_alike : List Str := ["things", "spans", "new", "due", "k", "thing"]
theorem sc__law_alike : FnScope N__law_alike ["things", "spans", "new", "due"] (defScope s__law_alike) := ⟨rfl, rfl, rfl, by decide +kernel, rfl, by decide +kernel, by decide +kernel⟩
def b__law_alike : SM := mSeq (mFor (itRg1 (mCons (mCall lenW (mCons (mVar 0) (mNil))) (mNil))) (tgN 4) (mIf (mOrT (mNotT (mTru (mF true [false, false, false, false] sem__law_beside (mCons (mVar 2) (mCons (mOp ixW (mVar 0) (mVar 4)) (mCons (mVar 3) (mCons (mOp ixW (mVar 1) (mVar 4)) (mNil)))))))) (mNotT (mTru (mF true [false, false, false, false] sem__law_beside (mCons (mOp ixW (mVar 0) (mVar 4)) (mCons (mVar 2) (mCons (mOp ixW (mVar 1) (mVar 4)) (mCons (mVar 3) (mNil))))))))) (mRet (mC (.bl false))) (mSkip))) (mSeq (mFor (itSeq (mLst (mCons (mVar 3) (mCons (mCall listW (mCons (mVar 3) (mNil))) (mCons (mOp ixW (mVar 3) (mC (.int 0))) (mCons (mC (.str (Str.ofString ""))) (mCons (mC .non) (mNil)))))))) (tgN 5) (mIf (mNotT (mTru (mF true [false, false] (sem__law_same 6) (mCons (mOp (eqOwnW "Stretch" sem_Stretch___eq__) (mVar 2) (mVar 5)) (mCons (mC (.bl false)) (mNil)))))) (mRet (mC (.bl false))) (mSkip))) (mRet (mC (.bl true))))
def sem__law_alike : CM := mkSem 4 6 b__law_alike
theorem ok__law_alike (T : Txt K mg) {f : Addr} {fd : FuncData} (F : Fun K "_law_alike" "_law_alike" s__law_alike f fd) : FnOk P w K mg base CX0 9 f fd ["things", "spans", "new", "due"] (liftSp K mg 4 sem__law_alike) :=
  fn_w (k := 8) (N := N__law_alike) F sc__law_alike fun cdv A outer s H E hr => by
    unfold b__law_alike
    exact (wss_cons (ws_for PassesOwn.never rfl (wi_rg1 (by rfl) T.z_range (wa_cons (w_callB c_len (by rfl) T.z_len (by decide +kernel) (wa_cons (w_var 0) (wa_nil))) (wa_nil))) (wg_name (i := 4) sc__law_alike.nd) (wss_one (ws_if (PWw.pt (ww_or (wt_not (wt_tru (w_call true [false, false, false, false] (d__law_beside T) (hr.mono (by decide)) (by rfl) (wa_cons (w_var 2) (wa_cons (w_ix i_ix (w_var 0) (w_var 4)) (wa_cons (w_var 3) (wa_cons (w_ix i_ix (w_var 1) (w_var 4)) (wa_nil)))))))) (ww_or1 (wt_not (wt_tru (w_call true [false, false, false, false] (d__law_beside T) (hr.mono (by decide)) (by rfl) (wa_cons (w_ix i_ix (w_var 0) (w_var 4)) (wa_cons (w_var 2) (wa_cons (w_ix i_ix (w_var 1) (w_var 4)) (wa_cons (w_var 3) (wa_nil))))))))))) (wss_one (ws_ret (w_bl))) (wss_nil)))) (wss_cons (ws_for PassesOwn.never rfl (wi_seq (w_lst (wa_cons (w_var 3) (wa_cons (w_callTy c_list (by rfl) T.z_list (by decide +kernel) (wa_cons (w_var 3) (wa_nil))) (wa_cons (w_ix i_ix (w_var 3) (w_int)) (wa_cons (w_str) (wa_cons (w_non) (wa_nil)))))))) (wg_name (i := 5) sc__law_alike.nd) (wss_one (ws_if (wt_not (wt_tru (w_call true [false, false] (d__law_same T 6) (hr.mono (by decide)) (by rfl) (wa_cons (w_cmp (o_eqOwn (o_Stretch___eq__ T) (hr.mono (by decide))) (w_var 2) (w_var 5)) (wa_cons (w_bl) (wa_nil)))))) (wss_one (ws_ret (w_bl))) (wss_nil)))) (wss_one (ws_ret (w_bl)))))
theorem d__law_alike (T : Txt K mg) : Def P w K mg base 9 "_law_alike" 4 sem__law_alike := by
  obtain ⟨f, fd, F, g⟩ := T.f__law_alike
  exact ⟨f, fd, ["things", "spans", "new", "due"], ok__law_alike T F, rfl, g, F.kp, F.binds (ps := ["things", "spans", "new", "due"]) fun _ _ _ _ _ _ us hl => match us, hl with | [_, _, _, _], _ => rfl⟩
/-! law -/
abbrev s_law : Stmt := (top 22)
abbrev N_law : List Str := ["script", "bag", "spans", "k", "things", "span", "turn", "j", "name", "n", "rows", "due", "new"]
theorem sc_law : FnScope N_law ["script"] (defScope s_law) := ⟨rfl, rfl, rfl, by decide +kernel, rfl, by decide +kernel, by decide +kernel⟩
def b_law : SM := mSeq (mAsg (mF false [false, false] sem__law_bag (mCons (mVar 0) (mCons (mC (.int 0)) (mNil)))) (tgN 1)) (mSeq (mAsg (mLcM [3] (itRg1 (mCons (mOp addW (mC (.int 2)) (mF true [true, false] sem__law_take (mCons (mVar 1) (mCons (mC (.int 3)) (mNil))))) (mNil))) (tgN 3) (mYes) (mF true [true] sem__law_span (mCons (mVar 1) (mNil)))) (tgN 2)) (mSeq (mAsg (mLcM [5] (itSeq (mVar 2)) (tgN 5) (mYes) (mMk "Stretch" ["low", "high"] sem_Stretch___init__ (mCons (mOp ixW (mVar 5) (mC (.int 0))) (mCons (mOp ixW (mVar 5) (mC (.int 1))) (mNil))))) (tgN 4)) (mSeq (mAsg (mF false [false, false] sem__law_bag (mCons (mVar 0) (mCons (mC (.int 1)) (mNil)))) (tgN 1)) (mSeq (mFor (itRg1 (mCons (mOp addW (mC (.int 1)) (mF true [true, false] sem__law_take (mCons (mVar 1) (mCons (mC (.int 12)) (mNil))))) (mNil))) (tgN 6) (mSeq (mAsg (mF true [true, false] sem__law_take (mCons (mVar 1) (mCons (mCall lenW (mCons (mVar 2) (mNil))) (mNil)))) (tgN 7)) (mSeq (mAsg (mVar 7) (tgN 3)) (mSeq (mIf (mB (mOp gtW (mF true [true, false] sem__law_take (mCons (mVar 1) (mCons (mC (.int 3)) (mNil)))) (mC (.int 0)))) (mAsg (mF true [true, false] sem__law_take (mCons (mVar 1) (mCons (mCall lenW (mCons (mVar 2) (mNil))) (mNil)))) (tgN 3)) (mSkip)) (mSeq (mAsg (mF true [true, false] sem__law_pick (mCons (mVar 1) (mCons (mLst (mCons (mC (.str (Str.ofString "mul"))) (mCons (mC (.str (Str.ofString "add"))) (mCons (mC (.str (Str.ofString "sub"))) (mCons (mC (.str (Str.ofString "hull"))) (mCons (mC (.str (Str.ofString "least"))) (mCons (mC (.str (Str.ofString "greatest"))) (mCons (mC (.str (Str.ofString "saturated"))) (mCons (mC (.str (Str.ofString "point"))) (mNil)))))))))) (mNil)))) (tgN 8)) (mSeq (mAsg (mF true [true] sem__law_end (mCons (mVar 1) (mNil))) (tgN 9)) (mSeq (mAsg (mF true [false, false, false, false] sem__law_outcomes (mCons (mVar 8) (mCons (mF true [true, false] sem__law_some (mCons (mVar 1) (mCons (mOp ixW (mVar 2) (mVar 7)) (mNil)))) (mCons (mF true [true, false] sem__law_some (mCons (mVar 1) (mCons (mOp ixW (mVar 2) (mVar 3)) (mNil)))) (mCons (mVar 9) (mNil)))))) (tgN 10)) (mSeq (mAsg (mTup (mCons (mCall minW (mCons (mVar 10) (mNil))) (mCons (mCall maxW (mCons (mVar 10) (mNil))) (mNil)))) (tgN 11)) (mSeq (mAsg (mF true [false, false, false, false] sem__law_made (mCons (mVar 8) (mCons (mOp ixW (mVar 4) (mVar 7)) (mCons (mOp ixW (mVar 4) (mVar 3)) (mCons (mVar 9) (mNil)))))) (tgN 12)) (mSeq (mIf (mOrT (mNotT (mTru (mF true [false, false] sem__law_stands (mCons (mVar 12) (mCons (mVar 11) (mNil)))))) (mNotT (mTru (mF true [false, false, false, false] sem__law_holds (mCons (mVar 12) (mCons (mVar 11) (mCons (mVar 10) (mCons (mVar 9) (mNil))))))))) (mRet (mC (.bl false))) (mSkip)) (mSeq (mIf (mNotT (mTru (mF true [true, true, false, false] sem__law_alike (mCons (mVar 4) (mCons (mVar 2) (mCons (mVar 12) (mCons (mVar 11) (mNil)))))))) (mRet (mC (.bl false))) (mSkip)) (mSeq (mExpr (mBM appendW (mVar 2) (mCons (mVar 11) (mNil)))) (mExpr (mBM appendW (mVar 4) (mCons (mVar 12) (mNil)))))))))))))))) (mSeq (mFor (itRg1 (mCons (mCall lenW (mCons (mVar 2) (mNil))) (mNil))) (tgN 3) (mIf (mNotT (mTru (mF true [false, false] sem__law_stands (mCons (mOp ixW (mVar 4) (mVar 3)) (mCons (mOp ixW (mVar 2) (mVar 3)) (mNil)))))) (mRet (mC (.bl false))) (mSkip))) (mRet (mC (.bl true))))))))
def sem_law : CM := mkSem 1 13 b_law
theorem ok_law (T : Txt K mg) {f : Addr} {fd : FuncData} (F : Fun K "law" "law" s_law f fd) : FnOk P w K mg base CX0 10 f fd ["script"] (liftSp K mg 1 sem_law) :=
  fn_w (k := 9) (N := N_law) F sc_law fun cdv A outer s H E hr => by
    unfold b_law
    exact (wss_cons (ws_set (i := 1) sc_law.nd (w_call false [false, false] (d__law_bag T) (hr.mono (by decide)) (by rfl) (wa_cons (w_var 0) (wa_cons (w_int) (wa_nil))))) (wss_cons (ws_setLcM (i := 2) (own := [("k", 3)]) rfl sc_law.nd (sw_true rfl rfl rfl (by decide +kernel)) (wi_rg1 (by rfl) T.z_range (wa_cons (w_op o_add (w_int) (w_call true [true, false] (d__law_take T) (hr.mono (by decide)) (by rfl) (wa_cons (w_var 1) (wa_cons (w_int) (wa_nil))))) (wa_nil))) (blkOk_by (own := [("k", 3)]) (N := N_law) (sc := defScope s_law) (by decide +kernel)) (fun _ _ _ _ _ => wg_name (i := 3) sc_law.nd) (fun _ _ _ _ _ => wts_nil) (fun _ _ _ _ _ => w_call true [true] (d__law_span T) (hr.mono (by decide)) (by rfl) (wa_cons (w_var 1) (wa_nil)))) (wss_cons (ws_setLcM (i := 4) (own := [("span", 5)]) rfl sc_law.nd (sw_true rfl rfl rfl (by decide +kernel)) (wi_seq (w_var 2)) (blkOk_by (own := [("span", 5)]) (N := N_law) (sc := defScope s_law) (by decide +kernel)) (fun _ _ _ _ _ => wg_name (i := 5) sc_law.nd) (fun _ _ _ _ _ => wts_nil) (fun _ _ _ _ _ => w_make "Stretch" ["low", "high"] (m_Stretch T) (hr.mono (by decide)) (by rfl) (wa_cons (w_ix i_ix (w_var 5) (w_int)) (wa_cons (w_ix i_ix (w_var 5) (w_int)) (wa_nil))) (hlen := (cons_len (cons_len nil_len))))) (wss_cons (ws_set (i := 1) sc_law.nd (w_call false [false, false] (d__law_bag T) (hr.mono (by decide)) (by rfl) (wa_cons (w_var 0) (wa_cons (w_int) (wa_nil))))) (wss_cons (ws_for PassesOwn.never rfl (wi_rg1 (by rfl) T.z_range (wa_cons (w_op o_add (w_int) (w_call true [true, false] (d__law_take T) (hr.mono (by decide)) (by rfl) (wa_cons (w_var 1) (wa_cons (w_int) (wa_nil))))) (wa_nil))) (wg_name (i := 6) sc_law.nd) (wss_cons (ws_set (i := 7) sc_law.nd (w_call true [true, false] (d__law_take T) (hr.mono (by decide)) (by rfl) (wa_cons (w_var 1) (wa_cons (w_callB c_len (by rfl) T.z_len (by decide +kernel) (wa_cons (w_var 2) (wa_nil))) (wa_nil))))) (wss_cons (ws_set (i := 3) sc_law.nd (w_var 7)) (wss_cons (ws_if (wt_cmp o_gt (w_call true [true, false] (d__law_take T) (hr.mono (by decide)) (by rfl) (wa_cons (w_var 1) (wa_cons (w_int) (wa_nil)))) (w_int)) (wss_one (ws_set (i := 3) sc_law.nd (w_call true [true, false] (d__law_take T) (hr.mono (by decide)) (by rfl) (wa_cons (w_var 1) (wa_cons (w_callB c_len (by rfl) T.z_len (by decide +kernel) (wa_cons (w_var 2) (wa_nil))) (wa_nil)))))) (wss_nil)) (wss_cons (ws_set (i := 8) sc_law.nd (w_call true [true, false] (d__law_pick T) (hr.mono (by decide)) (by rfl) (wa_cons (w_var 1) (wa_cons (w_lst (wa_cons (w_str) (wa_cons (w_str) (wa_cons (w_str) (wa_cons (w_str) (wa_cons (w_str) (wa_cons (w_str) (wa_cons (w_str) (wa_cons (w_str) (wa_nil)))))))))) (wa_nil))))) (wss_cons (ws_set (i := 9) sc_law.nd (w_call true [true] (d__law_end T) (hr.mono (by decide)) (by rfl) (wa_cons (w_var 1) (wa_nil)))) (wss_cons (ws_set (i := 10) sc_law.nd (w_call true [false, false, false, false] (d__law_outcomes T) (hr.mono (by decide)) (by rfl) (wa_cons (w_var 8) (wa_cons (w_call true [true, false] (d__law_some T) (hr.mono (by decide)) (by rfl) (wa_cons (w_var 1) (wa_cons (w_ix i_ix (w_var 2) (w_var 7)) (wa_nil)))) (wa_cons (w_call true [true, false] (d__law_some T) (hr.mono (by decide)) (by rfl) (wa_cons (w_var 1) (wa_cons (w_ix i_ix (w_var 2) (w_var 3)) (wa_nil)))) (wa_cons (w_var 9) (wa_nil))))))) (wss_cons (ws_set (i := 11) sc_law.nd (w_tup (wa_cons (w_callB (c_min rfl) (by rfl) T.z_min (by decide +kernel) (wa_cons (w_var 10) (wa_nil))) (wa_cons (w_callB (c_max rfl) (by rfl) T.z_max (by decide +kernel) (wa_cons (w_var 10) (wa_nil))) (wa_nil))))) (wss_cons (ws_set (i := 12) sc_law.nd (w_call true [false, false, false, false] (d__law_made T) (hr.mono (by decide)) (by rfl) (wa_cons (w_var 8) (wa_cons (w_ix i_ix (w_var 4) (w_var 7)) (wa_cons (w_ix i_ix (w_var 4) (w_var 3)) (wa_cons (w_var 9) (wa_nil))))))) (wss_cons (ws_if (PWw.pt (ww_or (wt_not (wt_tru (w_call true [false, false] (d__law_stands T) (hr.mono (by decide)) (by rfl) (wa_cons (w_var 12) (wa_cons (w_var 11) (wa_nil)))))) (ww_or1 (wt_not (wt_tru (w_call true [false, false, false, false] (d__law_holds T) (hr.mono (by decide)) (by rfl) (wa_cons (w_var 12) (wa_cons (w_var 11) (wa_cons (w_var 10) (wa_cons (w_var 9) (wa_nil))))))))))) (wss_one (ws_ret (w_bl))) (wss_nil)) (wss_cons (ws_if (wt_not (wt_tru (w_call true [true, true, false, false] (d__law_alike T) (hr.mono (by decide)) (by rfl) (wa_cons (w_var 4) (wa_cons (w_var 2) (wa_cons (w_var 12) (wa_cons (w_var 11) (wa_nil)))))))) (wss_one (ws_ret (w_bl))) (wss_nil)) (wss_cons (ws_expr (w_bm m_append PySem.F.slot_list_append PySem.F.type_list_append (w_var 2) (wa_cons (w_var 11) (wa_nil)))) (wss_one (ws_expr (w_bm m_append PySem.F.slot_list_append PySem.F.type_list_append (w_var 4) (wa_cons (w_var 12) (wa_nil))))))))))))))))) (wss_cons (ws_for PassesOwn.never rfl (wi_rg1 (by rfl) T.z_range (wa_cons (w_callB c_len (by rfl) T.z_len (by decide +kernel) (wa_cons (w_var 2) (wa_nil))) (wa_nil))) (wg_name (i := 3) sc_law.nd) (wss_one (ws_if (wt_not (wt_tru (w_call true [false, false] (d__law_stands T) (hr.mono (by decide)) (by rfl) (wa_cons (w_ix i_ix (w_var 4) (w_var 3)) (wa_cons (w_ix i_ix (w_var 2) (w_var 3)) (wa_nil)))))) (wss_one (ws_ret (w_bl))) (wss_nil)))) (wss_one (ws_ret (w_bl)))))))))
theorem d_law (T : Txt K mg) : Def P w K mg base 10 "law" 1 sem_law := by
  obtain ⟨f, fd, F, g⟩ := T.f_law
  exact ⟨f, fd, ["script"], ok_law T F, rfl, g, F.kp, F.binds (ps := ["script"]) fun _ _ _ _ _ _ us hl => match us, hl with | [_], _ => rfl⟩
end
end Pg
set_option maxRecDepth 100000
set_option maxHeartbeats 400000
namespace Pg
open PySem L2 Zw

def clampZ (n : Int) : Int := if n < -999999 then -999999 else if n > 999999 then 999999 else n
def satZ (n top : Int) : Int := if n < 0 then 0 else if n > top then top else n
@[simp] theorem sl_val : sizeLine = 16777216 := sizeLine_eq
@[simp] theorem sem_clamp_eq (n : Int) (S : Sto) : sem_clamp [.int n] S = some (.int (clampZ n), S) := by
  simp [sem_clamp, b_clamp, c_LEAST, c_GREATEST, clampZ]
  by_cases h : n < -999999 <;> simp [h]
  by_cases h' : 999999 < n <;> simp [h']
@[simp] theorem sem_saturate_eq (n t : Int) (S : Sto) : sem_saturate [.int n, .int t] S = some (.int (satZ n t), S) := by
  simp [sem_saturate, b_saturate, satZ]
  by_cases h : n < 0 <;> simp [h]
  by_cases h' : t < n <;> simp [h']
abbrev strW (l h : Int) : W := .ins "Stretch" ["low", "high"] [.int l, .int h]
@[simp] theorem sem_init_eq (x y : W) : sem_Stretch___init__ [.ref 0, x, y] [.ins "Stretch" []] = some (.non, [.ins "Stretch" [("low", x), ("high", y)]]) := by
  simp [sem_Stretch___init__, b_Stretch___init__, putW]
@[simp] theorem sem_point_eq (n : Int) (S : Sto) : sem_Stretch_point [.int n] S = some (strW n n, S) := by
  simp [sem_Stretch_point, b_Stretch_point]
@[simp] theorem sem_contains_eq (l h n : Int) (S : Sto) : sem_Stretch___contains__ [strW l h, .int n] S = some (.bl (decide (l ≤ n ∧ n ≤ h)), S) := by
  simp [sem_Stretch___contains__, b_Stretch___contains__]
  by_cases h : l ≤ n <;> simp [h]
@[simp] theorem sem_add_eq (a b c d : Int) (S : Sto) : sem_Stretch___add__ [strW a b, strW c d] S = some (strW (clampZ (a + c)) (clampZ (b + d)), S) := by
  simp [sem_Stretch___add__, b_Stretch___add__]
@[simp] theorem sem_sub_eq (a b c d : Int) (S : Sto) : sem_Stretch___sub__ [strW a b, strW c d] S = some (strW (clampZ (a - d)) (clampZ (b - c)), S) := by
  simp [sem_Stretch___sub__, b_Stretch___sub__]
theorem sem_mul_eq (a b c d : Int) (S : Sto) (h1 : CMulA a c) (h2 : CMulA a d) (h3 : CMulA b c) (h4 : CMulA b d) : sem_Stretch___mul__ [strW a b, strW c d] S = some (strW (clampZ (minI [a*c, a*d, b*c, b*d])) (clampZ (maxI [a*c, a*d, b*c, b*d])), S) := by
  simp [sem_Stretch___mul__, b_Stretch___mul__, h1, h2, h3, h4]
@[simp] theorem if_min (a b : Int) : (if b < a then b else a) = min a b := by omega
@[simp] theorem if_max (a b : Int) : (if a < b then b else a) = max a b := by omega
@[simp] theorem sem_or_eq (a b c d : Int) (S : Sto) : sem_Stretch___or__ [strW a b, strW c d] S = some (strW (min a c) (max b d), S) := by
  simp [sem_Stretch___or__, b_Stretch___or__]
@[simp] theorem sem_least_eq (a b c d : Int) (S : Sto) : sem_Stretch_least [strW a b, strW c d] S = some (strW (min a c) (min b d), S) := by
  simp [sem_Stretch_least, b_Stretch_least]
@[simp] theorem sem_greatest_eq (a b c d : Int) (S : Sto) : sem_Stretch_greatest [strW a b, strW c d] S = some (strW (max a c) (max b d), S) := by
  simp [sem_Stretch_greatest, b_Stretch_greatest]
@[simp] theorem sem_within_eq (a b c d : Int) (S : Sto) : sem_Stretch_within [strW a b, strW c d] S = some (.bl (decide (c ≤ a ∧ b ≤ d)), S) := by
  simp [sem_Stretch_within, b_Stretch_within]
  by_cases h : c ≤ a <;> simp [h]
@[simp] theorem sem_is_point_eq (a b : Int) (S : Sto) : sem_Stretch_is_point [strW a b] S = some (.bl (decide (a = b)), S) := by
  simp [sem_Stretch_is_point, b_Stretch_is_point, eqS]
@[simp] theorem sem_saturated_eq (a b t : Int) (S : Sto) : sem_Stretch_saturated [strW a b, .int t] S = some (strW (satZ a t) (satZ b t), S) := by
  simp [sem_Stretch_saturated, b_Stretch_saturated]
@[simp] theorem sem_pair_eq (a b : Int) (S : Sto) : sem_Stretch_pair [strW a b] S = some (.tup [.int a, .int b], S) := by
  simp [sem_Stretch_pair, b_Stretch_pair]
@[simp] theorem sem_eq_eq (a b c d : Int) (S : Sto) : sem_Stretch___eq__ [strW a b, strW c d] S = some (.bl (decide (a = c ∧ b = d)), S) := by
  simp [sem_Stretch___eq__, b_Stretch___eq__]
  by_cases h : a = c <;> simp [h]
@[simp] theorem ixN_nat (n j : Nat) : ixN n (j : Int) = if j < n then some j else none := by
  simp [ixN]
@[simp] theorem ixN_0 (n : Nat) : ixN n 0 = if 0 < n then some 0 else none := ixN_nat n 0
@[simp] theorem ixN_1 (n : Nat) : ixN n 1 = if 1 < n then some 1 else none := ixN_nat n 1
@[simp] theorem ixN_2 (n : Nat) : ixN n 2 = if 2 < n then some 2 else none := ixN_nat n 2
@[simp] theorem atI_nat {α : Type} (l : List α) (j : Nat) : atI l (j : Int) = l[j]? := by
  unfold atI
  by_cases h : j < l.length
  · simp [h]
  · simp [h]
@[simp] theorem atI_0 {α : Type} (l : List α) : atI l 0 = l[0]? := atI_nat l 0
@[simp] theorem atI_1 {α : Type} (l : List α) : atI l 1 = l[1]? := atI_nat l 1
@[simp] theorem atI_2 {α : Type} (l : List α) : atI l 2 = l[2]? := atI_nat l 2
@[simp] theorem cm_l {a b : Int} (h : -(2 ^ 64) < a ∧ a < 2 ^ 64) : CMulA a b := .inl (.inl h)
theorem cm_r {a b : Int} (h : -(2 ^ 64) < b ∧ b < 2 ^ 64) : CMulA a b := .inl (.inr h)
@[simp] theorem cpow18 : CPow 10 18 := by unfold CPow; decide
@[simp] theorem cpow40 : CPow 10 40 := by unfold CPow; decide
theorem sem_bag_eq (ns : List Int) (a : Nat) (S : Sto) : ∃ x y, sem__law_bag [.lsr (ns.map .int), .int a] S = some (.ref S.length, S ++ [.lst [.int x, .int a, .int y]]) := by
  simp [sem__law_bag, b__law_bag]
  by_cases h : a < ns.length
  · simp [h]
    by_cases h1 : ns[a] < 0
    · simp [h1]
      by_cases h2 : 1000000000000000000 ≤ 1 - 2 * ns[a] <;> simp [h2]
    · simp [h1]
      by_cases h2 : 1000000000000000000 ≤ ns[a] <;> simp [h2]
  · simp [h]
@[simp] theorem cm_t1 (a : Int) : CMulA a 48271 := cm_r (by omega)
@[simp] theorem cm_t2 (a : Int) : CMulA a 69621 := cm_r (by omega)
@[simp] theorem cm_t3 (a : Int) : CMulA a 40692 := cm_r (by omega)
@[simp] theorem cm_t4 (a b : Int) : CMulA (a % 2147483647) b := cm_l (by omega)
@[simp] theorem cm_t5 (a b : Int) : CMulA (a % 2147483399) b := cm_l (by omega)
@[simp] theorem cd_7 (a : Int) : CDivW a 7 := ⟨by decide, by decide⟩
@[simp] theorem negW_i {i : Int} {S : Sto} : negW (.int i) S = some (.int (-i), S) := rfl
theorem sem_take_eq (x a y many : Int) (h0 : 0 < many) (h1 : many.natAbs.log2 < 9000) : ∃ x' a' d, 0 ≤ d ∧ d < many ∧ sem__law_take [.ref 0, .int many] [.lst [.int x, .int a, .int y]] = some (.int d, [.lst [.int x', .int a', .int y]]) := by
  have hd : CDivW x many := ⟨h0, h1⟩
  have hm : ∀ z : Int, 0 ≤ z % many ∧ z % many < many := fun z => ⟨Int.emod_nonneg _ (by omega), Int.emod_lt_of_pos _ h0⟩
  by_cases h2 : y = 1 ∧ 1 < x
  · refine ⟨x / many, a, x % many, (hm _).1, (hm _).2, ?_⟩
    simp [sem__law_take, b__law_take, h2, h0, hd]
  · have h3 : y = 1 → ¬ 1 < x := fun h h' => h2 ⟨h, h'⟩
    suffices h : ∃ z, sem__law_take [.ref 0, .int many] [.lst [.int x, .int a, .int y]] = some (.int (z % many), [.lst [.int x, .int (a + 1), .int y]]) by
      obtain ⟨z, e⟩ := h
      exact ⟨x, a + 1, z % many, (hm _).1, (hm _).2, e⟩
    by_cases h4 : y = 1
    · simp [sem__law_take, b__law_take, h4, h3 h4, h0]
      exact ⟨_, rfl⟩
    · simp [sem__law_take, b__law_take, h4, h0]
      exact ⟨_, rfl⟩
def Bag (o : Ob) : Prop := ∃ x a y : Int, o = .lst [.int x, .int a, .int y]
theorem Bag.flat {o : Ob} (h : Bag o) : o.flat = true := by
  obtain ⟨x, a, y, rfl⟩ := h
  simp
theorem flats_mem : ∀ {ws : List W} {w : W}, flats ws = true → w ∈ ws → w.flat = true
  | x :: ws, w, h, hw => by
    simp at h
    rcases List.mem_cons.1 hw with rfl | h'
    · exact h.1
    · exact flats_mem h.2 h'
theorem split_flats : ∀ {ws : List W} {i : Nat}, flats ws = true → splitF (ws.map fun _ => false) ws i = some ([], ws)
  | [], _, _ => rfl
  | w :: ws, i, h => by
    simp at h
    simp [h.1, split_flats h.2]
/-- a call that has one list of its own to write, the first -/
theorem lift1 {fz : Bool} {mask : List Bool} {sem : CM} {S : Sto} {k : Nat} {o o' : Ob} {junk : Sto} {v : W} {ws : List W} (hk : S[k]? = some o) (ho : o.flat = true) (hm : mask = true :: ws.map fun _ => false) (hw : flats ws = true)
    (e : sem (.ref 0 :: ws) [o] = some (v, o' :: junk)) (ho' : o'.flat = true) (hv : v.flat = true) : runF fz mask sem (.ref k :: ws) S = some (v, S.set k o') := by
  subst hm
  simp [r_run, split_flats hw, hk, ho, e, ho']
  cases v <;> simp_all
theorem lift1L {mask : List Bool} {sem : CM} {S : Sto} {k : Nat} {o o' : Ob} {junk : Sto} {j : Nat} {ws vs : List W} (hk : S[k]? = some o) (ho : o.flat = true) (hm : mask = true :: ws.map fun _ => false) (hw : flats ws = true)
    (e : sem (.ref 0 :: ws) [o] = some (.ref (j + 1), o' :: junk)) (ho' : o'.flat = true) (hj : junk[j]? = some (.lst vs)) (hv : flats vs = true) : runF true mask sem (.ref k :: ws) S = some (.lst vs, S.set k o') := by
  subst hm
  simp [-Ob.flat, r_run, split_flats hw, hk, ho, e, ho', hj, hv]
theorem take_run {fz : Bool} {S : Sto} {k : Nat} {o : Ob} {many : Int} (hk : S[k]? = some o) (hb : Bag o) (h0 : 0 < many) (h1 : many.natAbs.log2 < 9000) : ∃ d o', Bag o' ∧ 0 ≤ d ∧ d < many ∧ runF fz [true, false] sem__law_take [.ref k, .int many] S = some (.int d, S.set k o') := by
  obtain ⟨x, a, y, rfl⟩ := hb
  obtain ⟨x', a', d, hd0, hd1, e⟩ := sem_take_eq x a y many h0 h1
  exact ⟨d, _, ⟨x', a', y, rfl⟩, hd0, hd1, lift1 hk (by simp) rfl rfl e (by simp) rfl⟩
theorem log2_small {n k : Nat} (h : n < 2 ^ k) (hk : k < 9000) : n.log2 < 9000 := by
  by_cases h0 : n = 0
  · subst h0; decide
  · have := (Nat.log2_lt h0).2 h
    omega
theorem pick_run {fz : Bool} {S : Sto} {k : Nat} {o : Ob} {ws : List W} (hk : S[k]? = some o) (hb : Bag o) (h0 : ws ≠ []) (h1 : ws.length < 1000) (hf : flats ws = true) : ∃ w o', Bag o' ∧ w ∈ ws ∧ runF fz [true, false] sem__law_pick [.ref k, .lst ws] S = some (w, S.set k o') := by
  have hp := List.length_pos_iff.2 h0
  obtain ⟨d, o', hb', hd0, hd1, e⟩ := take_run (fz := true) (S := [o]) (k := 0) (many := ws.length) rfl hb (by omega) (by
    rw [Int.natAbs_natCast]
    exact log2_small (k := 10) (by omega) (by omega))
  obtain ⟨j, rfl⟩ : ∃ j : Nat, d = j := ⟨d.toNat, by omega⟩
  have hj : j < ws.length := by omega
  refine ⟨ws[j], _, hb', List.getElem_mem hj, ?_⟩
  refine lift1 hk hb.flat rfl (by simpa using hf) (junk := []) ?_ hb'.flat (flats_mem hf (List.getElem_mem hj))
  simp [sem__law_pick, b__law_pick, e, hj]
def Big (n : Int) : Prop := -(10 ^ 40) ≤ n ∧ n ≤ 10 ^ 40
theorem cm_big {a b : Int} (ha : Big a) (hb : Big b) : CMulA a b := by
  refine .inr ?_
  unfold CMulW
  have h : ∀ x : Int, Big x → x.natAbs.log2 < 9000 := fun x hx => log2_small (k := 200) (by unfold Big at hx; omega) (by omega)
  have := h a ha
  have := h b hb
  omega
theorem end_run {fz : Bool} {S : Sto} {k : Nat} {o : Ob} (hk : S[k]? = some o) (hb : Bag o) : ∃ n o', Bag o' ∧ Big n ∧ runF fz [true] sem__law_end [.ref k] S = some (.int n, S.set k o') := by
  suffices h : ∃ n o' junk, Bag o' ∧ Big n ∧ sem__law_end [.ref 0] [o] = some (.int n, o' :: junk) by
    obtain ⟨n, o', junk, h1, h2, e⟩ := h
    exact ⟨n, o', h1, h2, lift1 hk hb.flat rfl rfl e h1.flat rfl⟩
  obtain ⟨d, o1, b1, d0, d1, e1⟩ := take_run (fz := true) (S := [o]) (k := 0) (many := 7) rfl hb (by omega) (by decide)
  by_cases h1 : d < 4
  · obtain ⟨d2, o2, b2, d20, d21, e2⟩ := take_run (fz := true) (S := [o1]) (k := 0) (many := 13) rfl b1 (by omega) (by decide)
    refine ⟨d2 - 6, o2, [], b2, ?_, ?_⟩
    rotate_left
    · simp [sem__law_end, b__law_end, e1, h1, e2]
    · unfold Big; omega
  by_cases h2 : d = 4
  · subst h2
    obtain ⟨w, o2, b2, hw, e2⟩ := pick_run (fz := true) (S := [o1]) (k := 0) (ws := [.int 0, .int 999999, .int (-999999)]) rfl b1 (by simp) (by simp) (by simp)
    obtain ⟨d3, o3, b3, d30, d31, e3⟩ := take_run (fz := true) (S := [o2]) (k := 0) (many := 5) rfl b2 (by omega) (by decide)
    obtain ⟨n, rfl, hn⟩ : ∃ n : Int, w = .int n ∧ -999999 ≤ n ∧ n ≤ 999999 := by
      simp at hw
      rcases hw with rfl | rfl | rfl
      · exact ⟨_, rfl, by omega⟩
      · exact ⟨_, rfl, by omega⟩
      · exact ⟨_, rfl, by omega⟩
    refine ⟨n + d3 - 2, o3, [], b3, ?_, ?_⟩
    rotate_left
    · simp [sem__law_end, b__law_end, e1, e2, e3]
    · unfold Big; omega
  by_cases h3 : d = 5
  · subst h3
    obtain ⟨d2, o2, b2, d20, d21, e2⟩ := take_run (fz := true) (S := [o1]) (k := 0) (many := 2000003) rfl b1 (by omega) (by decide)
    refine ⟨d2 - 1000001, o2, [], b2, ?_, ?_⟩
    rotate_left
    · simp [sem__law_end, b__law_end, e1, e2]
    · unfold Big; omega
  · obtain ⟨w, o2, b2, hw, e2⟩ := pick_run (fz := true) (S := [o1]) (k := 0) (ws := [.int 1, .int (-1)]) rfl b1 (by simp) (by simp) (by simp)
    obtain ⟨d3, o3, b3, d30, d31, e3⟩ := take_run (fz := true) (S := [o2]) (k := 0) (many := 10 ^ 40) rfl b2 (by omega) (log2_small (k := 200) (by decide) (by omega))
    obtain ⟨n, rfl, hn⟩ : ∃ n : Int, w = .int n ∧ (n = 1 ∨ n = -1) := by
      simp at hw
      rcases hw with rfl | rfl
      · exact ⟨_, rfl, by omega⟩
      · exact ⟨_, rfl, by omega⟩
    have hc : CMulA n d3 := cm_l (by omega)
    have e3' := e3
    simp at e3'
    refine ⟨n * d3, o3, [], b3, ?_, ?_⟩
    rotate_left
    · simp [sem__law_end, b__law_end, e1, h1, h2, h3, e2, e3', hc]
    · unfold Big; rcases hn with rfl | rfl <;> omega
end Pg
set_option maxRecDepth 100000
set_option maxHeartbeats 1000000
namespace Pg
open PySem L2 Zw

theorem span_run {fz : Bool} {S : Sto} {k : Nat} {o : Ob} (hk : S[k]? = some o) (hb : Bag o) : ∃ a b o', Bag o' ∧ Big a ∧ Big b ∧ a ≤ b ∧ runF fz [true] sem__law_span [.ref k] S = some (.tup [.int a, .int b], S.set k o') := by
  suffices h : ∃ a b o' junk, Bag o' ∧ Big a ∧ Big b ∧ a ≤ b ∧ sem__law_span [.ref 0] [o] = some (.tup [.int a, .int b], o' :: junk) by
    obtain ⟨a, b, o', junk, h1, h2, h3, h4, e⟩ := h
    exact ⟨a, b, o', h1, h2, h3, h4, lift1 hk hb.flat rfl rfl e h1.flat (by simp)⟩
  obtain ⟨m, o1, b1, hm, e1⟩ := end_run (fz := true) (S := [o]) (k := 0) rfl hb
  obtain ⟨d, o2, b2, d0, d1, e2⟩ := take_run (fz := true) (S := [o1]) (k := 0) (many := 4) rfl b1 (by omega) (by decide)
  by_cases h : 0 < d
  · obtain ⟨n, o3, b3, hn, e3⟩ := end_run (fz := true) (S := [o2]) (k := 0) rfl b2
    refine ⟨min m n, max m n, o3, [], b3, ?_, ?_, ?_, ?_⟩
    · unfold Big at *; omega
    · unfold Big at *; omega
    · omega
    · simp [sem__law_span, b__law_span, e1, e2, e3, h]
  · refine ⟨m, m, o2, [], b2, hm, hm, Int.le_refl _, ?_⟩
    simp [sem__law_span, b__law_span, e1, e2, h]

theorem some_run {fz : Bool} {S : Sto} {k : Nat} {o : Ob} {a b : Int} (hk : S[k]? = some o) (hb : Bag o) (ha : Big a) (hbb : Big b) (hab : a ≤ b) : ∃ xs : List Int, ∃ o', Bag o' ∧ (∀ x ∈ xs, a ≤ x ∧ x ≤ b) ∧ a ∈ xs ∧ b ∈ xs ∧ xs.length ≤ 6 ∧ runF fz [true, false] sem__law_some [.ref k, .tup [.int a, .int b]] S = some (.lst (xs.map .int), S.set k o') := by
  suffices h : ∃ xs : List Int, ∃ o' junk, Bag o' ∧ (∀ x ∈ xs, a ≤ x ∧ x ≤ b) ∧ a ∈ xs ∧ b ∈ xs ∧ xs.length ≤ 6 ∧ sem__law_some [.ref 0, .tup [.int a, .int b]] [o] = some (.lst (xs.map .int), o' :: junk) by
    obtain ⟨xs, o', junk, h1, h2, h3, h4, h5, e⟩ := h
    exact ⟨xs, o', h1, h2, h3, h4, h5, lift1 hk hb.flat rfl (by simp) e h1.flat (by simp [flats_int])⟩
  by_cases h : b - a + 1 ≤ 6
  · have hs : sem__law_some [.ref 0, .tup [.int a, .int b]] [o] = some (.lst (((List.range (b - a + 1).toNat).map fun i => a + (i : Nat)).map .int), [o]) := by
      have hr : -(2 ^ 62) ≤ b - a + 1 ∧ b - a + 1 < 2 ^ 62 := by omega
      simp [sem__law_some, b__law_some, h]
      rw [r_rg1K hr]
      simp [rangeW]
      rw [compL_map (g := fun i : Nat => W.int i) (f := fun i : Nat => W.int (a + i)) (by simp) _ _ (by simp; omega) (by simp)]
      simp
    refine ⟨_, o, [], hb, ?_, ?_, ?_, ?_, hs⟩
    · intro x hx
      simp at hx
      omega
    · simp
      exact ⟨0, by omega, by simp⟩
    · simp
      exact ⟨(b - a).toNat, by omega, by omega⟩
    · simp; omega
  · obtain ⟨d, o2, b2, d0, d1, e2⟩ := take_run (fz := true) (S := [o]) (k := 0) (many := b - a + 1) rfl hb (by omega) (log2_small (k := 200) (by unfold Big at *; omega) (by omega))
    refine ⟨[a, a + 1, a + d, b - 1, b], o2, [], b2, ?_, ?_, ?_, ?_, ?_⟩
    · intro x hx
      simp at hx
      omega
    · simp
    · simp
    · simp
    · simp [sem__law_some, b__law_some, h, e2]

def names : List String := ["mul", "add", "sub", "hull", "least", "greatest", "saturated", "point"]
def clip (n : Int) : Int := max (-999999) (min 999999 n)
def outc (name : String) (x y n : Int) : Int :=
  if name = "point" then n else if name = "saturated" then max 0 (min n.natAbs x) else if name = "least" then min x y else if name = "greatest" then max x y
  else if name = "add" then clip (x + y) else if name = "sub" then clip (x - y) else clip (x * y)
theorem outcome_run {fz : Bool} {S : Sto} {name : String} {x y n : Int} (hn : name ∈ names) (hh : name ≠ "hull") (hx : Big x) (hy : Big y) :
    runF fz [false, false, false, false] sem__law_outcome [.str (Str.ofString name), .int x, .int y, .int n] S = some (.int (outc name x y n), S) := by
  have hc := cm_big hx hy
  simp only [names, List.mem_cons, List.mem_nil_iff, or_false] at hn
  rcases hn with rfl | rfl | rfl | rfl | rfl | rfl | rfl | rfl
  all_goals first | exact absurd rfl hh | skip
  all_goals simp [sem__law_outcome, b__law_outcome, outc, clip, hc, inW]
  have h : (if n < 0 then -n else n) = n.natAbs := by omega
  rw [h]

def outs (name : String) (xs ys : List Int) (n : Int) : List Int := if name = "hull" then xs ++ ys else xs.flatMap fun x => ys.map fun y => outc name x y n
theorem hull_eq (xs ys : List Int) (n : Int) (S : Sto) (h : xs.length + ys.length < 100) : sem__law_outcomes [.str (Str.ofString "hull"), .lst (xs.map .int), .lst (ys.map .int), .int n] S = some (.lst ((outs "hull" xs ys n).map .int), S) := by
  simp [sem__law_outcomes, b__law_outcomes, outs]
  omega
theorem outs_eq {name : String} (xs ys : List Int) (n : Int) (hn : name ∈ names) (hh : name ≠ "hull") (hx : ∀ x ∈ xs, Big x) (hy : ∀ y ∈ ys, Big y) (lx : xs.length ≤ 6) (ly : ys.length ≤ 6) :
    sem__law_outcomes [.str (Str.ofString name), .lst (xs.map .int), .lst (ys.map .int), .int n] [] = some (.ref 0, [.lst ((outs name xs ys n).map .int)]) := by
  simp [sem__law_outcomes, b__law_outcomes, outs, hh]
  obtain ⟨u, S', e, h3⟩ := forL_sto (ok := Src.ok ⟨xs.map W.int, none⟩) (i := 5) (ws := xs.map W.int) (r := [some (W.str (Str.ofString name)), some (W.lst (List.map W.int xs)), some (W.lst (List.map W.int ys)), some (W.int n), some (W.ref 0), none, none]) (S := [.lst []])
    (body := (mExpr (mBM extendW (mVar 4) (mCons (mLc [6] (itSeq (mVar 2)) (tgN 6) mYes (mF true [false, false, false, false] sem__law_outcome (mCons (mVar 0) (mCons (mVar 5) (mCons (mVar 6) (mCons (mVar 3) mNil)))))) mNil))))
    (fun i S => ∃ l : List Int, l = ((xs.take i).flatMap fun x => ys.map fun y => outc name x y n) ∧ l.length ≤ 6 * i ∧ S = [Ob.lst (l.map W.int)]) (by simp) ⟨[], by simp⟩ (by simp) (by
      rintro i w S hw ⟨l, hl, hll, rfl⟩
      obtain ⟨x, hx1, rfl⟩ : ∃ x, xs[i]? = some x ∧ W.int x = w := by simpa using hw
      have hxm : x ∈ xs := List.mem_of_getElem? hx1
      have hi : i < xs.length := by
        rcases Nat.lt_or_ge i xs.length with h | h
        · exact h
        · rw [List.getElem?_eq_none h] at hx1; cases hx1
      have htake : xs.take (i + 1) = xs.take i ++ [x] := by
        rw [List.take_add_one, hx1]; rfl
      refine ⟨[.lst ((l ++ ys.map fun y => outc name x y n).map .int)], ?_, _, ?_, ?_, rfl⟩
      · simp
        rw [compL_map (g := W.int) (f := fun y => W.int (outc name x y n)) (by simp) _ _ (by simp; omega) (by
          intro y hyy
          simp [-run_f4]
          rw [outcome_run hn hh (hx x hxm) (hy y hyy)])]
        have h9 : l.length + ys.length ≤ 16777216 := by omega
        simp [h9]
      · rw [htake, hl]; simp
      · simp; omega)
  rw [e]
  obtain ⟨l, hl, -, rfl⟩ := h3
  simp at hl
  subst hl
  simp [List.map_flatMap]
theorem outs_run {fz : Bool} {S : Sto} {name : String} (xs ys : List Int) (n : Int) (hn : name ∈ names) (hx : ∀ x ∈ xs, Big x) (hy : ∀ y ∈ ys, Big y) (lx : xs.length ≤ 6) (ly : ys.length ≤ 6) :
    runF true [false, false, false, false] sem__law_outcomes [.str (Str.ofString name), .lst (xs.map .int), .lst (ys.map .int), .int n] S = some (.lst ((outs name xs ys n).map .int), S) := by
  by_cases hh : name = "hull"
  · subst hh
    simp [hull_eq xs ys n _ (show xs.length + ys.length < 100 by omega), flats_int]
  · simp [outs_eq xs ys n hn hh hx hy lx ly, flats_int, pureK']
def madeP (name : String) (a b c d n : Int) : Int × Int :=
  if name = "add" then (clampZ (a + c), clampZ (b + d)) else if name = "sub" then (clampZ (a - d), clampZ (b - c))
  else if name = "mul" then (clampZ (minI [a*c, a*d, b*c, b*d]), clampZ (maxI [a*c, a*d, b*c, b*d])) else if name = "hull" then (min a c, max b d)
  else if name = "least" then (min a c, min b d) else if name = "greatest" then (max a c, max b d) else if name = "saturated" then (satZ a n.natAbs, satZ b n.natAbs) else (n, n)
theorem made_run {fz : Bool} {S : Sto} {name : String} {a b c d n : Int} (hn : name ∈ names) (ha : Big a) (hb : Big b) (hc : Big c) (hd : Big d) :
    runF fz [false, false, false, false] sem__law_made [.str (Str.ofString name), strW a b, strW c d, .int n] S = some (strW (madeP name a b c d n).1 (madeP name a b c d n).2, S) := by
  have hm := sem_mul_eq a b c d [] (cm_big ha hc) (cm_big ha hd) (cm_big hb hc) (cm_big hb hd)
  have h : (if n < 0 then -n else n) = n.natAbs := by omega
  simp only [names, List.mem_cons, List.mem_nil_iff, or_false] at hn
  rcases hn with rfl | rfl | rfl | rfl | rfl | rfl | rfl | rfl
  all_goals simp [sem__law_made, b__law_made, madeP, hm, h]
  all_goals trace_state
end Pg
set_option maxRecDepth 100000
set_option maxHeartbeats 1000000
namespace Pg
open PySem L2 Zw
theorem same_int (k : Nat) (a b : Int) (S : Sto) : sem__law_same (k + 1) [.int a, .int b] S = some (.bl (decide (a = b)), S) := by
  simp [sem__law_same, b__law_same]
theorem same_bl (k : Nat) (a b : Bool) (S : Sto) : sem__law_same (k + 1) [.bl a, .bl b] S = some (.bl (decide (a = b)), S) := by
  simp [sem__law_same, b__law_same]
theorem same_tup (k : Nat) (ws : List W) (S : Sto) (hf : flats ws = true) (hl : ws.length < 1000) (h : ∀ w ∈ ws, sem__law_same k [w, w] [] = some (.bl true, [])) : sem__law_same (k + 1) [.tup ws, .tup ws] S = some (.bl true, S) := by
  have hr : -(2 ^ 62) ≤ (ws.length : Int) ∧ (ws.length : Int) < 2 ^ 62 := by omega
  simp [-r_rg1K, sem__law_same, b__law_same]
  rw [r_rg1K hr]
  simp
  obtain ⟨u, e⟩ := forL_all (ok := Src.ok ⟨rangeW 0 ws.length, none⟩) (i := 2) (ws := rangeW 0 ws.length) (r := [some (W.tup ws), some (W.tup ws), none]) (S := S)
    (body := (mIf
                    (mNotT
                      (mTru
                        (mF true [false, false] (sem__law_same k)
                          (mCons (mOp ixW (mVar 0) (mVar 2)) (mCons (mOp ixW (mVar 1) (mVar 2)) mNil)))))
                    (mRet (mC (W.bl false))) mSkip)) (by simp) (by simp) (by
      intro i w hw
      obtain ⟨hi, rfl⟩ := rangeW_get hw
      have hw := flats_mem hf (List.getElem_mem hi)
      simp [hi, hw, h _ (List.getElem_mem hi)])
  rw [e]
  simp

theorem stands_run {fz : Bool} {S : Sto} (a b : Int) : runF fz [false, false] sem__law_stands [strW a b, .tup [.int a, .int b]] S = some (.bl true, S) := by
  have h1 : ∀ c : Int, sem__law_same 4 [.int c, .int c] [] = some (.bl true, []) := fun c => by simp [same_int 3]
  have h2 : ∀ c : Int, sem__law_same 5 [.int c, .int c] [] = some (.bl true, []) := fun c => by simp [same_int 4]
  have h3 : ∀ c : Bool, sem__law_same 5 [.bl c, .bl c] [] = some (.bl true, []) := fun c => by simp [same_bl 4]
  have h4 : sem__law_same 5 [.tup [.int a, .int b], .tup [.int a, .int b]] [] = some (.bl true, []) := same_tup 4 _ _ (by simp) (by simp) (by simp [h1])
  have h5 : sem__law_same 6 [.tup [.int a, .int b, .tup [.int a, .int b], .bl (decide (a = b))], .tup [.int a, .int b, .tup [.int a, .int b], .bl (decide (a = b))]] [] = some (.bl true, []) := same_tup 5 _ _ (by simp) (by simp) (by simp [h2, h3, h4])
  simp [sem__law_stands, b__law_stands, h5]
theorem eq_pair (a b c d : Int) (S : Sto) : eqW (.tup [.int a, .int b]) (.tup [.int c, .int d]) S = some (.bl (decide (a = c ∧ b = d)), S) := by
  have h : ∀ x y : Int, PyData.canLayAll0 [PyData.int x, PyData.int y] = true := fun x y => rfl
  have h' : ∀ x y : Int, PyData.depthAll [PyData.int x, PyData.int y] ≤ 63 := fun x y => by simp [PyData.depthAll, PyData.depth]
  simp [eqW, pdS, pd, pds, SeqAt.shaped, PyData.canLay0, PyData.depth, PyData.eqv, PyData.eqvAll, h, h']
  by_cases h1 : a = c <;> by_cases h2 : b = d <;> simp [h1, h2]
theorem beside_run {fz : Bool} {S : Sto} (a b c d : Int) : runF fz [false, false, false, false] sem__law_beside [strW a b, strW c d, .tup [.int a, .int b], .tup [.int c, .int d]] S = some (.bl true, S) := by
  have h3 : ∀ (c : Bool) (S : Sto), sem__law_same 6 [.bl c, .bl c] S = some (.bl true, S) := fun c S => by simp [same_bl 5]
  by_cases h : c ≤ a <;> simp [sem__law_beside, b__law_beside, eq_pair, h, h3]
theorem holds_run {fz : Bool} {S : Sto} (a b n : Int) (rows : List Int) (h : ∀ x ∈ rows, a ≤ x ∧ x ≤ b) : runF fz [false, false, false, false] sem__law_holds [strW a b, .tup [.int a, .int b], .lst (rows.map .int), .int n] S = some (.bl true, S) := by
  have h1 : ¬ a ≤ a - 1 := by omega
  have h2 : ¬ b + 1 ≤ b := by omega
  simp [sem__law_holds, b__law_holds, flats_int]
  obtain ⟨u, e⟩ := forL_all (ok := Src.ok ⟨rows.map W.int, none⟩) (i := 4) (ws := rows.map W.int) (r := [some (strW a b), some (W.tup [W.int a, W.int b]), some (W.lst (List.map W.int rows)), some (W.int n), none]) (S := [])
    (body := (mIf (mB (mOp (notInOwnW "Stretch" sem_Stretch___contains__) (mVar 4) (mVar 0))) (mRet (mC (W.bl false))) mSkip)) (by simp) (by simp) (by
      intro i w hw
      obtain ⟨x, hx1, rfl⟩ : ∃ x, rows[i]? = some x ∧ W.int x = w := by simpa using hw
      have := h x (List.mem_of_getElem? hx1)
      simp [this])
  rw [e]
  by_cases h3 : a ≤ n <;> simp [h1, h2, h3]
theorem set_same {S : Sto} {i : Nat} {o : Ob} (h : S[i]? = some o) : S.set i o = S := by
  apply List.ext_getElem?
  intro k
  by_cases hk : i = k
  · subst hk
    rw [List.getElem?_set_self', h]; rfl
  · rw [List.getElem?_set_ne hk]
theorem get_map {α : Type} {l : List α} {f : α → W} {j : Nat} (h : j < l.length) : (l.map f)[j]? = some (f l[j]) := by simp [h]
theorem alike_run {S : Sto} {i j : Nat} (spans : List (Int × Int)) (hi : S[i]? = some (.lst (spans.map fun p => strW p.1 p.2))) (hj : S[j]? = some (.lst (spans.map fun p => .tup [.int p.1, .int p.2]))) (hij : i ≠ j) (hl : spans.length < 100) (a b : Int) :
    runF true [true, true, false, false] sem__law_alike [.ref i, .ref j, strW a b, .tup [.int a, .int b]] S = some (.bl true, S) := by
  have h3 : ∀ (c : Bool) (S : Sto), sem__law_same 6 [.bl c, .bl c] S = some (.bl true, S) := fun c S => by simp [same_bl 5]
  have hr : -(2 ^ 62) ≤ (spans.length : Int) ∧ (spans.length : Int) < 2 ^ 62 := by omega
  suffices h : sem__law_alike [.ref 0, .ref 1, strW a b, .tup [.int a, .int b]] [.lst (spans.map fun p => strW p.1 p.2), .lst (spans.map fun p => .tup [.int p.1, .int p.2])] = some (.bl true, [.lst (spans.map fun p => strW p.1 p.2), .lst (spans.map fun p => .tup [.int p.1, .int p.2])]) by
    have f1 : flats (spans.map fun p => strW p.1 p.2) = true := by
      clear h hi hj hl hr
      induction spans <;> simp_all
    have f2 : flats (spans.map fun p => W.tup [.int p.1, .int p.2]) = true := by
      clear h hi hj hl hr f1
      induction spans <;> simp_all
    simp [r_run, hi, hj, h, hij, f1, f2]
    rw [set_same hi, set_same hj]
  simp [-r_rg1K, sem__law_alike, b__law_alike]
  rw [r_rg1K hr]
  simp
  obtain ⟨u, e⟩ := forL_all (ok := Src.ok ⟨rangeW 0 spans.length, none⟩) (i := 4) (ws := rangeW 0 spans.length) (r := [some (W.ref 0), some (W.ref 1), some (strW a b), some (W.tup [W.int a, W.int b]), none, none])
    (S := [Ob.lst (List.map (fun p => strW p.fst p.snd) spans), Ob.lst (List.map (fun p => W.tup [W.int p.fst, W.int p.snd]) spans)])
    (body := (mIf
                (mOrT
                  (mNotT
                    (mTru
                      (mF true [false, false, false, false] sem__law_beside
                        (mCons (mVar 2)
                          (mCons (mOp ixW (mVar 0) (mVar 4))
                            (mCons (mVar 3) (mCons (mOp ixW (mVar 1) (mVar 4)) mNil)))))))
                  (mNotT
                    (mTru
                      (mF true [false, false, false, false] sem__law_beside
                        (mCons (mOp ixW (mVar 0) (mVar 4))
                          (mCons (mVar 2) (mCons (mOp ixW (mVar 1) (mVar 4)) (mCons (mVar 3) mNil))))))))
                (mRet (mC (W.bl false))) mSkip)) (by simp) (by simp) (by
      intro i w hw
      obtain ⟨hi, rfl⟩ := rangeW_get hw
      simp [-run_f4, hi, beside_run])
  rw [e]
  simp
  obtain ⟨u', e'⟩ := forL_all (ok := Src.ok ⟨[W.tup [W.int a, W.int b], W.lst [W.int a, W.int b], W.int a, W.str (Str.ofString ""), W.non], none⟩) (i := 5) (ws := [W.tup [W.int a, W.int b], W.lst [W.int a, W.int b], W.int a, W.str (Str.ofString ""), W.non]) (r := [some (W.ref 0), some (W.ref 1), some (strW a b), some (W.tup [W.int a, W.int b]), u, none])
    (S := [Ob.lst (List.map (fun p => strW p.fst p.snd) spans), Ob.lst (List.map (fun p => W.tup [W.int p.fst, W.int p.snd]) spans)])
    (body := (mIf
                  (mNotT
                    (mTru
                      (mF true [false, false] (sem__law_same 6)
                        (mCons (mOp (eqOwnW "Stretch" sem_Stretch___eq__) (mVar 2) (mVar 5))
                          (mCons (mC (W.bl false)) mNil)))))
                  (mRet (mC (W.bl false))) mSkip)) (by simp) (by simp) (by
      intro i w hw
      have hw := List.mem_of_getElem? hw
      simp at hw
      rcases hw with rfl | rfl | rfl | rfl | rfl
      all_goals simp [sem_Stretch___eq__, b_Stretch___eq__, h3])
  rw [e']
  simp
end Pg
set_option maxRecDepth 100000
set_option maxHeartbeats 1000000
namespace Pg
open PySem L2 Zw
theorem maxI_mem : ∀ {ns : List Int}, ns ≠ [] → maxI ns ∈ ns
  | [x], _ => by simp [maxI]
  | x :: y :: ns, _ => by
    have := maxI_mem (ns := y :: ns) (by simp)
    simp only [maxI]
    rcases Int.le_total x (maxI (y :: ns)) with h | h
    · rw [Int.max_eq_right h]; exact List.mem_cons_of_mem _ this
    · rw [Int.max_eq_left h]; exact List.mem_cons_self ..
theorem minI_mem : ∀ {ns : List Int}, ns ≠ [] → minI ns ∈ ns
  | [x], _ => by simp [minI]
  | x :: y :: ns, _ => by
    have := minI_mem (ns := y :: ns) (by simp)
    simp only [minI]
    rcases Int.le_total x (minI (y :: ns)) with h | h
    · rw [Int.min_eq_left h]; exact List.mem_cons_self ..
    · rw [Int.min_eq_right h]; exact List.mem_cons_of_mem _ this
theorem ends_of {rows : List Int} {l h : Int} (hl : l ∈ rows) (hh : h ∈ rows) (hb : ∀ x ∈ rows, l ≤ x ∧ x ≤ h) : minI rows = l ∧ maxI rows = h := by
  have hne : rows ≠ [] := by rintro rfl; cases hl
  have h1 := (hb _ (minI_mem hne)).1
  have h2 := (hb _ (maxI_mem hne)).2
  have h3 := minI_le hl
  have h4 := maxI_le hh
  omega
theorem lin {a b x : Int} (h1 : a ≤ x) (h2 : x ≤ b) (k : Int) : (a * k ≤ x * k ∧ x * k ≤ b * k) ∨ (b * k ≤ x * k ∧ x * k ≤ a * k) := by
  rcases Int.le_total 0 k with h | h
  · exact .inl ⟨Int.mul_le_mul_of_nonneg_right h1 h, Int.mul_le_mul_of_nonneg_right h2 h⟩
  · exact .inr ⟨Int.mul_le_mul_of_nonpos_right h2 h, Int.mul_le_mul_of_nonpos_right h1 h⟩
theorem mul_bound {a b c d x y : Int} (h1 : a ≤ x) (h2 : x ≤ b) (h3 : c ≤ y) (h4 : y ≤ d) : minI [a*c, a*d, b*c, b*d] ≤ x * y ∧ x * y ≤ maxI [a*c, a*d, b*c, b*d] := by
  have e1 := lin h1 h2 y
  have e2 := lin h3 h4 a
  have e3 := lin h3 h4 b
  rw [Int.mul_comm c a, Int.mul_comm y a, Int.mul_comm d a] at e2
  rw [Int.mul_comm c b, Int.mul_comm y b, Int.mul_comm d b] at e3
  simp only [minI, maxI]
  generalize x * y = p at *
  generalize a * y = q at *
  generalize b * y = r at *
  generalize a * c = s1 at *
  generalize a * d = s2 at *
  generalize b * c = s3 at *
  generalize b * d = s4 at *
  omega
theorem clip_clamp (n : Int) : clip n = clampZ n := by unfold clip clampZ; split <;> (try split) <;> omega
theorem clamp_mono {a b : Int} (h : a ≤ b) : clampZ a ≤ clampZ b := by unfold clampZ; split <;> split <;> (try split) <;> (try split) <;> omega
theorem clamp_big (a : Int) : Big (clampZ a) := by unfold clampZ Big; split <;> (try split) <;> omega
theorem rows_ends {name : String} {xs ys : List Int} {a b c d n : Int} (hn : name ∈ names) (hx : ∀ x ∈ xs, a ≤ x ∧ x ≤ b) (ax : a ∈ xs) (bx : b ∈ xs) (hy : ∀ y ∈ ys, c ≤ y ∧ y ≤ d) (cy : c ∈ ys) (dy : d ∈ ys) (hab : a ≤ b) (hcd : c ≤ d) :
    (madeP name a b c d n).1 ∈ outs name xs ys n ∧ (madeP name a b c d n).2 ∈ outs name xs ys n ∧ ∀ r ∈ outs name xs ys n, (madeP name a b c d n).1 ≤ r ∧ r ≤ (madeP name a b c d n).2 := by
  by_cases hh : name = "hull"
  · subst hh
    simp only [outs, madeP, if_true]
    simp only [show ("hull" = "add") = False by simp, show ("hull" = "sub") = False by simp, show ("hull" = "mul") = False by simp, if_false, List.mem_append]
    refine ⟨?_, ?_, ?_⟩
    · rcases Int.le_total a c with h | h
      · rw [Int.min_eq_left h]; exact .inl ax
      · rw [Int.min_eq_right h]; exact .inr cy
    · rcases Int.le_total b d with h | h
      · rw [Int.max_eq_right h]; exact .inr dy
      · rw [Int.max_eq_left h]; exact .inl bx
    · rintro r (h | h)
      · have := hx r h; omega
      · have := hy r h; omega
  · have mem : ∀ x ∈ xs, ∀ y ∈ ys, outc name x y n ∈ outs name xs ys n := by
      intro x h1 y h2
      simp only [outs, if_neg hh, List.mem_flatMap, List.mem_map]
      exact ⟨x, h1, y, h2, rfl⟩
    have all : ∀ r ∈ outs name xs ys n, ∃ x y, a ≤ x ∧ x ≤ b ∧ c ≤ y ∧ y ≤ d ∧ r = outc name x y n := by
      intro r hr
      simp only [outs, if_neg hh, List.mem_flatMap, List.mem_map] at hr
      obtain ⟨x, h1, y, h2, rfl⟩ := hr
      exact ⟨x, y, (hx x h1).1, (hx x h1).2, (hy y h2).1, (hy y h2).2, rfl⟩
    simp only [names, List.mem_cons, List.mem_nil_iff, or_false] at hn
    rcases hn with rfl | rfl | rfl | rfl | rfl | rfl | rfl | rfl
    · have e : ∀ x y, outc "mul" x y n = clampZ (x * y) := fun x y => by simp [outc, clip_clamp]
      have m : madeP "mul" a b c d n = (clampZ (minI [a*c, a*d, b*c, b*d]), clampZ (maxI [a*c, a*d, b*c, b*d])) := by simp [madeP]
      rw [m]
      have k : ∀ z ∈ [a*c, a*d, b*c, b*d], clampZ z ∈ outs "mul" xs ys n := by
        intro z hz
        simp at hz
        rcases hz with rfl | rfl | rfl | rfl
        · rw [← e]; exact mem _ ax _ cy
        · rw [← e]; exact mem _ ax _ dy
        · rw [← e]; exact mem _ bx _ cy
        · rw [← e]; exact mem _ bx _ dy
      refine ⟨k _ (minI_mem (by simp)), k _ (maxI_mem (by simp)), ?_⟩
      intro r hr
      obtain ⟨x, y, h1, h2, h3, h4, rfl⟩ := all r hr
      rw [e]
      have := mul_bound h1 h2 h3 h4
      exact ⟨clamp_mono this.1, clamp_mono this.2⟩
    · have e : ∀ x y, outc "add" x y n = clampZ (x + y) := fun x y => by simp [outc, clip_clamp]
      have m : madeP "add" a b c d n = (clampZ (a + c), clampZ (b + d)) := by simp [madeP]
      rw [m]
      refine ⟨by exact e a c ▸ mem _ ax _ cy, by exact e b d ▸ mem _ bx _ dy, ?_⟩
      intro r hr
      obtain ⟨x, y, h1, h2, h3, h4, rfl⟩ := all r hr
      rw [e]
      exact ⟨clamp_mono (by omega), clamp_mono (by omega)⟩
    · have e : ∀ x y, outc "sub" x y n = clampZ (x - y) := fun x y => by simp [outc, clip_clamp]
      have m : madeP "sub" a b c d n = (clampZ (a - d), clampZ (b - c)) := by simp [madeP]
      rw [m]
      refine ⟨by exact e a d ▸ mem _ ax _ dy, by exact e b c ▸ mem _ bx _ cy, ?_⟩
      intro r hr
      obtain ⟨x, y, h1, h2, h3, h4, rfl⟩ := all r hr
      rw [e]
      exact ⟨clamp_mono (by omega), clamp_mono (by omega)⟩
    · exact absurd rfl hh
    · have e : ∀ x y, outc "least" x y n = min x y := fun x y => by simp [outc]
      have m : madeP "least" a b c d n = (min a c, min b d) := by simp [madeP]
      rw [m]
      refine ⟨by exact e a c ▸ mem _ ax _ cy, by exact e b d ▸ mem _ bx _ dy, ?_⟩
      intro r hr
      obtain ⟨x, y, h1, h2, h3, h4, rfl⟩ := all r hr
      rw [e]
      simp only
      omega
    · have e : ∀ x y, outc "greatest" x y n = max x y := fun x y => by simp [outc]
      have m : madeP "greatest" a b c d n = (max a c, max b d) := by simp [madeP]
      rw [m]
      refine ⟨by exact e a c ▸ mem _ ax _ cy, by exact e b d ▸ mem _ bx _ dy, ?_⟩
      intro r hr
      obtain ⟨x, y, h1, h2, h3, h4, rfl⟩ := all r hr
      rw [e]
      simp only
      omega
    · have e : ∀ x y, outc "saturated" x y n = satZ x n.natAbs := fun x y => by
        simp [outc, satZ]; split <;> (try split) <;> omega
      have m : madeP "saturated" a b c d n = (satZ a n.natAbs, satZ b n.natAbs) := by simp [madeP]
      rw [m]
      refine ⟨by rw [← e a c]; exact mem _ ax _ cy, by rw [← e b d]; exact mem _ bx _ dy, ?_⟩
      intro r hr
      obtain ⟨x, y, h1, h2, h3, h4, rfl⟩ := all r hr
      rw [e]
      simp only [satZ]
      refine ⟨?_, ?_⟩ <;> split <;> (try split) <;> (try split) <;> (try split) <;> omega
    · have e : ∀ x y, outc "point" x y n = n := fun x y => by simp [outc]
      have m : madeP "point" a b c d n = (n, n) := by simp [madeP]
      rw [m]
      refine ⟨by rw [← e a c]; exact mem _ ax _ cy, by rw [← e b d]; exact mem _ bx _ dy, ?_⟩
      intro r hr
      obtain ⟨x, y, h1, h2, h3, h4, h5⟩ := all r hr
      rw [e] at h5
      simp [h5]
theorem made_big {name : String} {a b c d n : Int} (ha : Big a) (hb : Big b) (hc : Big c) (hd : Big d) (hn : Big n) : Big (madeP name a b c d n).1 ∧ Big (madeP name a b c d n).2 := by
  unfold madeP
  repeat' split
  all_goals first | exact ⟨clamp_big _, clamp_big _⟩ | skip
  all_goals unfold Big at *
  · simp only; omega
  · simp only; omega
  · simp only; omega
  · simp only [satZ]; constructor <;> split <;> (try split) <;> omega
  · simp only; omega
end Pg
set_option maxRecDepth 100000
set_option maxHeartbeats 1000000
namespace Pg
open PySem L2 Zw
def midB : SM := mIf (mB (mOp gtW (mF true [true, false] sem__law_take (mCons (mVar 1) (mCons (mC (.int 3)) (mNil)))) (mC (.int 0)))) (mAsg (mF true [true, false] sem__law_take (mCons (mVar 1) (mCons (mCall lenW (mCons (mVar 2) (mNil))) (mNil)))) (tgN 3)) (mSkip)
def turnB : SM := mSeq (mAsg (mF true [true, false] sem__law_take (mCons (mVar 1) (mCons (mCall lenW (mCons (mVar 2) (mNil))) (mNil)))) (tgN 7)) (mSeq (mAsg (mVar 7) (tgN 3)) (mSeq midB (mSeq (mAsg (mF true [true, false] sem__law_pick (mCons (mVar 1) (mCons (mLst (mCons (mC (.str (Str.ofString "mul"))) (mCons (mC (.str (Str.ofString "add"))) (mCons (mC (.str (Str.ofString "sub"))) (mCons (mC (.str (Str.ofString "hull"))) (mCons (mC (.str (Str.ofString "least"))) (mCons (mC (.str (Str.ofString "greatest"))) (mCons (mC (.str (Str.ofString "saturated"))) (mCons (mC (.str (Str.ofString "point"))) (mNil)))))))))) (mNil)))) (tgN 8)) (mSeq (mAsg (mF true [true] sem__law_end (mCons (mVar 1) (mNil))) (tgN 9)) (mSeq (mAsg (mF true [false, false, false, false] sem__law_outcomes (mCons (mVar 8) (mCons (mF true [true, false] sem__law_some (mCons (mVar 1) (mCons (mOp ixW (mVar 2) (mVar 7)) (mNil)))) (mCons (mF true [true, false] sem__law_some (mCons (mVar 1) (mCons (mOp ixW (mVar 2) (mVar 3)) (mNil)))) (mCons (mVar 9) (mNil)))))) (tgN 10)) (mSeq (mAsg (mTup (mCons (mCall minW (mCons (mVar 10) (mNil))) (mCons (mCall maxW (mCons (mVar 10) (mNil))) (mNil)))) (tgN 11)) (mSeq (mAsg (mF true [false, false, false, false] sem__law_made (mCons (mVar 8) (mCons (mOp ixW (mVar 4) (mVar 7)) (mCons (mOp ixW (mVar 4) (mVar 3)) (mCons (mVar 9) (mNil)))))) (tgN 12)) (mSeq (mIf (mOrT (mNotT (mTru (mF true [false, false] sem__law_stands (mCons (mVar 12) (mCons (mVar 11) (mNil)))))) (mNotT (mTru (mF true [false, false, false, false] sem__law_holds (mCons (mVar 12) (mCons (mVar 11) (mCons (mVar 10) (mCons (mVar 9) (mNil))))))))) (mRet (mC (.bl false))) (mSkip)) (mSeq (mIf (mNotT (mTru (mF true [true, true, false, false] sem__law_alike (mCons (mVar 4) (mCons (mVar 2) (mCons (mVar 12) (mCons (mVar 11) (mNil)))))))) (mRet (mC (.bl false))) (mSkip)) (mSeq (mExpr (mBM appendW (mVar 2) (mCons (mVar 11) (mNil)))) (mExpr (mBM appendW (mVar 4) (mCons (mVar 12) (mNil))))))))))))))
def lastB : SM := mIf (mNotT (mTru (mF true [false, false] sem__law_stands (mCons (mOp ixW (mVar 4) (mVar 3)) (mCons (mOp ixW (mVar 2) (mVar 3)) (mNil)))))) (mRet (mC (.bl false))) (mSkip)
def b_law2 : SM := mSeq (mAsg (mF false [false, false] sem__law_bag (mCons (mVar 0) (mCons (mC (.int 0)) (mNil)))) (tgN 1)) (mSeq (mAsg (mLcM [3] (itRg1 (mCons (mOp addW (mC (.int 2)) (mF true [true, false] sem__law_take (mCons (mVar 1) (mCons (mC (.int 3)) (mNil))))) (mNil))) (tgN 3) (mYes) (mF true [true] sem__law_span (mCons (mVar 1) (mNil)))) (tgN 2)) (mSeq (mAsg (mLcM [5] (itSeq (mVar 2)) (tgN 5) (mYes) (mMk "Stretch" ["low", "high"] sem_Stretch___init__ (mCons (mOp ixW (mVar 5) (mC (.int 0))) (mCons (mOp ixW (mVar 5) (mC (.int 1))) (mNil))))) (tgN 4)) (mSeq (mAsg (mF false [false, false] sem__law_bag (mCons (mVar 0) (mCons (mC (.int 1)) (mNil)))) (tgN 1)) (mSeq (mFor (itRg1 (mCons (mOp addW (mC (.int 1)) (mF true [true, false] sem__law_take (mCons (mVar 1) (mCons (mC (.int 12)) (mNil))))) (mNil))) (tgN 6) turnB) (mSeq (mFor (itRg1 (mCons (mCall lenW (mCons (mVar 2) (mNil))) (mNil))) (tgN 3) lastB) (mRet (mC (.bl true))))))))
theorem b_law_two : b_law = b_law2 := rfl

def spW (l : List (Int × Int)) : Ob := .lst (l.map fun p => .tup [.int p.1, .int p.2])
def thW (l : List (Int × Int)) : Ob := .lst (l.map fun p => strW p.1 p.2)
@[simp] theorem lenK_sp {S : Sto} {l : List (Int × Int)} : lenK S (spW l) = some (.int l.length, S) := by simp [spW]
@[simp] theorem lenK_th {S : Sto} {l : List (Int × Int)} : lenK S (thW l) = some (.int l.length, S) := by simp [thW]
theorem ixK_sp {S : Sto} {l : List (Int × Int)} {j : Nat} (h : j < l.length) : ixK (j : Int) S (spW l) = some (.tup [.int l[j].1, .int l[j].2], S) := by simp [spW, h]
theorem ixK_th {S : Sto} {l : List (Int × Int)} {j : Nat} (h : j < l.length) : ixK (j : Int) S (thW l) = some (strW l[j].1 l[j].2, S) := by simp [thW, h]
theorem app_sp {o ob : Ob} {l m : List (Int × Int)} {a b : Int} (h : l.length < 50) : appendW (.ref 1) [.tup [.int a, .int b]] [o, spW l, thW m, ob] = some (.non, [o, spW (l ++ [(a, b)]), thW m, ob]) := by
  have h' : l.length < 16777216 := by omega
  simp [spW, h']
theorem app_th {o ob : Ob} {l m : List (Int × Int)} {a b : Int} (h : l.length < 50) : appendW (.ref 2) [strW a b] [o, spW m, thW l, ob] = some (.non, [o, spW m, thW (l ++ [(a, b)]), ob]) := by
  have h' : l.length < 16777216 := by omega
  simp [thW, h']
theorem isl_1 {o ob : Ob} {l m : List (Int × Int)} : isLst [o, spW l, thW m, ob] (.ref 1) = true := by simp [isLst, spW]
theorem isl_2 {o ob : Ob} {l m : List (Int × Int)} : isLst [o, spW l, thW m, ob] (.ref 2) = true := by simp [isLst, thW]
def Ok (l : List (Int × Int)) : Prop := ∀ p ∈ l, Big p.1 ∧ Big p.2 ∧ p.1 ≤ p.2
theorem bag_run (ns : List Int) (a : Nat) (S : Sto) : ∃ o, Bag o ∧ runF false [false, false] sem__law_bag [.lsr (ns.map .int), .int a] S = some (.ref S.length, S ++ [o]) := by
  obtain ⟨x, y, e⟩ := sem_bag_eq ns a []
  simp at e
  exact ⟨.lst [.int x, .int a, .int y], ⟨_, _, _, rfl⟩, by simp [e, flats_int, pureK']⟩
abbrev envL (s u3 u6 u7 u8 u9 u10 u11 u12 : Option W) : Ev := [s, some (.ref 3), some (.ref 1), u3, some (.ref 2), none, u6, u7, u8, u9, u10, u11, u12]
theorem pick_names {fz : Bool} {S : Sto} {k : Nat} {o : Ob} (hk : S[k]? = some o) (hb : Bag o) : ∃ name o', Bag o' ∧ name ∈ names ∧ runF fz [true, false] sem__law_pick [.ref k, .lst [.str (Str.ofString "mul"), .str (Str.ofString "add"), .str (Str.ofString "sub"), .str (Str.ofString "hull"), .str (Str.ofString "least"), .str (Str.ofString "greatest"), .str (Str.ofString "saturated"), .str (Str.ofString "point")]] S = some (.str (Str.ofString name), S.set k o') := by
  obtain ⟨w, o', hb', hw, e⟩ := pick_run (fz := fz) (ws := [.str (Str.ofString "mul"), .str (Str.ofString "add"), .str (Str.ofString "sub"), .str (Str.ofString "hull"), .str (Str.ofString "least"), .str (Str.ofString "greatest"), .str (Str.ofString "saturated"), .str (Str.ofString "point")]) hk hb (by simp) (by simp) (by simp)
  have : ∃ name, name ∈ names ∧ w = .str (Str.ofString name) := by
    simp at hw
    rcases hw with rfl | rfl | rfl | rfl | rfl | rfl | rfl | rfl
    all_goals exact ⟨_, by simp [names], rfl⟩
  obtain ⟨name, hn, rfl⟩ := this
  exact ⟨name, o', hb', hn, e⟩
theorem turn_step (s u3 u6 u7 u8 u9 u10 u11 u12 : Option W) (o ob : Ob) (l : List (Int × Int)) (hb : Bag ob) (ho : Ok l) (h2 : 2 ≤ l.length) (h16 : l.length < 50) :
    ∃ v3 v7 v8 v9 v10 v11 v12 ob' p, Bag ob' ∧ Ok [p] ∧ turnB (envL s u3 u6 u7 u8 u9 u10 u11 u12) [o, spW l, thW l, ob] = some (.nx, envL s v3 u6 v7 v8 v9 v10 v11 v12, [o, spW (l ++ [p]), thW (l ++ [p]), ob']) := by
  obtain ⟨j, ob1, b1, hj0, hj1, e1⟩ := take_run (fz := true) (S := [o, spW l, thW l, ob]) (k := 3) (many := l.length) rfl hb (by omega) (by rw [Int.natAbs_natCast]; exact log2_small (k := 10) (by omega) (by omega))
  obtain ⟨j, rfl⟩ : ∃ i : Nat, j = i := ⟨j.toNat, by omega⟩
  obtain ⟨z, ob2, b2, hz0, hz1, e2⟩ := take_run (fz := true) (S := [o, spW l, thW l, ob1]) (k := 3) (many := 3) rfl b1 (by omega) (by decide)
  have hkk : ∃ (k : Nat) (ob3 : Ob), Bag ob3 ∧ k < l.length ∧ midB
      (envL s (some (.int j)) u6 (some (.int j)) u8 u9 u10 u11 u12) [o, spW l, thW l, ob1] = some (.nx, envL s (some (.int k)) u6 (some (.int j)) u8 u9 u10 u11 u12, [o, spW l, thW l, ob3]) := by
    by_cases hz : 0 < z
    · obtain ⟨k, ob3, b3, hk0, hk1, e3⟩ := take_run (fz := true) (S := [o, spW l, thW l, ob2]) (k := 3) (many := l.length) rfl b2 (by omega) (by rw [Int.natAbs_natCast]; exact log2_small (k := 10) (by omega) (by omega))
      obtain ⟨k, rfl⟩ : ∃ i : Nat, k = i := ⟨k.toNat, by omega⟩
      refine ⟨k, ob3, b3, by omega, ?_⟩
      simp at e2 e3 ⊢
      simp [midB, e2, hz, e3]
    · refine ⟨j, ob2, b2, by omega, ?_⟩
      simp at e2 ⊢
      simp [midB, e2, hz]
  obtain ⟨k, ob3, b3, hk, ekk⟩ := hkk
  obtain ⟨name, ob4, b4, hname, e4⟩ := pick_names (fz := true) (S := [o, spW l, thW l, ob3]) (k := 3) rfl b3
  obtain ⟨n, ob5, b5, hn, e5⟩ := end_run (fz := true) (S := [o, spW l, thW l, ob4]) (k := 3) rfl b4
  have hj : j < l.length := by omega
  obtain ⟨ha, hb', hab⟩ := ho _ (List.getElem_mem hj)
  obtain ⟨hc, hd, hcd⟩ := ho _ (List.getElem_mem hk)
  obtain ⟨xs, ob6, b6, hxs, ax, bx, lx, e6⟩ := some_run (fz := true) (S := [o, spW l, thW l, ob5]) (k := 3) rfl b5 ha hb' hab
  obtain ⟨ys, ob7, b7, hys, cy, dy, ly, e7⟩ := some_run (fz := true) (S := [o, spW l, thW l, ob6]) (k := 3) rfl b6 hc hd hcd
  have e8 := outs_run (fz := true) (S := [o, spW l, thW l, ob7]) xs ys n hname (fun x hx => by have := hxs x hx; unfold Big at *; omega) (fun x hx => by have := hys x hx; unfold Big at *; omega) lx ly
  have e9 := made_run (fz := true) (S := [o, spW l, thW l, ob7]) (n := n) hname ha hb' hc hd
  obtain ⟨hm1, hm2, hm3⟩ := rows_ends (n := n) hname hxs ax bx hys cy dy hab hcd
  have hbig := made_big (name := name) ha hb' hc hd hn
  obtain ⟨q1, q2⟩ := ends_of hm1 hm2 hm3
  generalize madeP name l[j].1 l[j].2 l[k].1 l[k].2 n = due at *
  obtain ⟨lo, hi⟩ := due
  have hne : outs name xs ys n ≠ [] := by rintro h; rw [h] at hm1; cases hm1
  obtain ⟨r0, rs, hrows⟩ := List.exists_cons_of_ne_nil hne
  have e10 := alike_run (S := [o, spW l, thW l, ob7]) (i := 2) (j := 1) l rfl rfl (by simp) (by omega) lo hi
  have e11 := stands_run (fz := true) (S := [o, spW l, thW l, ob7]) lo hi
  have e12 := holds_run (fz := true) (S := [o, spW l, thW l, ob7]) lo hi n (outs name xs ys n) hm3
  refine ⟨some (.int k), some (.int j), some (.str (Str.ofString name)), some (.int n), some (.lst ((outs name xs ys n).map .int)), some (.tup [.int lo, .int hi]), some (strW lo hi), ob7, (lo, hi), b7, ?_, ?_⟩
  rotate_left
  · unfold turnB
    simp at e1 e4 e5 e6 e7 q1 q2
    have hin := intsOf_map (outs name xs ys n)
    have hmm : minW [.lst ((outs name xs ys n).map .int)] [o, spW l, thW l, ob7] = some (.int lo, [o, spW l, thW l, ob7]) := by
      rw [hrows] at hin q1 ⊢
      simp only [minW, seqOf, hin, q1]
    have hmx : maxW [.lst ((outs name xs ys n).map .int)] [o, spW l, thW l, ob7] = some (.int hi, [o, spW l, thW l, ob7]) := by
      rw [hrows] at hin q2 ⊢
      simp only [maxW, seqOf, hin, q2]
    simp [-run_f4, -run_f2, -minW, -maxW, -appendW, -isLst, e1, ekk, e4, e5, ixK_sp hj, ixK_sp hk, ixK_th hj, ixK_th hk, e6, e7, e8, e9, hmm, hmx, e10, e11, e12, app_sp h16, app_th h16, isl_1, isl_2]
  · intro p hp
    simp at hp
    subst hp
    exact ⟨hbig.1, hbig.2, (hm3 lo hm1).2⟩
theorem law_true (ns : List Int) : ∃ S, sem_law [.lsr (ns.map .int)] [] = some (.bl true, S) := by
  obtain ⟨o, b0, eb0⟩ := bag_run ns 0 []
  obtain ⟨d, o1, b1, hd0, hd1, e1⟩ := take_run (fz := true) (S := [o]) (k := 0) (many := 3) rfl b0 (by omega) (by decide)
  have hr : -(2 ^ 62) ≤ 2 + d ∧ 2 + d < 2 ^ 62 := by omega
  obtain ⟨S2, a2, e2, l, o2, b2, hok, hlen, -, rfl, rfl⟩ := compL_inv (ok := Src.ok ⟨rangeW 0 (2 + d).toNat, none⟩) (tg := tgN 3) (el := mF true [true] sem__law_span (mCons (mVar 1) mNil)) (ws := rangeW 0 (2 + d).toNat)
    (r := [some (.lsr (ns.map .int)), some (.ref 0), none, none, none, none, none, none, none, none, none, none, none]) (S := [o1]) (a := [])
    (fun i S a => ∃ (l : List (Int × Int)) (o' : Ob), Bag o' ∧ Ok l ∧ l.length = i ∧ i ≤ 4 ∧ a = l.map (fun p => W.tup [.int p.1, .int p.2]) ∧ S = [o'])
    ⟨[], o1, b1, (by intro p hp; cases hp), rfl, by omega, rfl, rfl⟩ (by simp) (by rintro i S a ⟨l, o', -, -, h1, h2, rfl, -⟩; simp; omega) (by
      rintro i w S a hw ⟨l, o', hb, hl, h1, h2, rfl, rfl⟩
      obtain ⟨hi, rfl⟩ := rangeW_get hw
      obtain ⟨x, y, o3, b3, hx, hy, hxy, e3⟩ := span_run (fz := true) (S := [o']) (k := 0) rfl hb
      simp at e3
      refine ⟨_, _, .tup [.int x, .int y], _, rfl, ?_, l ++ [(x, y)], o3, b3, ?_, by simp [h1], by omega, ?_, rfl⟩
      · simp [e3]
      · intro p hp
        rcases List.mem_append.1 hp with h | h
        · exact hl p h
        · simp at h; subst h; exact ⟨hx, hy, hxy⟩
      · simp)
  rw [rangeW_len] at hlen
  simp [-run_f2] at eb0 e1
  obtain ⟨o3, b3, eb3⟩ := bag_run ns 1 [o2, spW l, thW l]
  obtain ⟨t, o4, b4, ht0, ht1, e4⟩ := take_run (fz := true) (S := [o2, spW l, thW l, o3]) (k := 3) (many := 12) rfl b3 (by omega) (by decide)
  simp [-run_f2] at eb3 e4
  have hr2 : -(2 ^ 62) ≤ 1 + t ∧ 1 + t < 2 ^ 62 := by omega
  have e5 : compL (Src.ok ⟨l.map (fun p => W.tup [.int p.1, .int p.2]), some 1⟩) (tgN 5) mYes (mMk "Stretch" ["low", "high"] sem_Stretch___init__ (mCons (mOp ixW (mVar 5) (mC (W.int 0))) (mCons (mOp ixW (mVar 5) (mC (W.int 1))) mNil))) (l.map (fun p => W.tup [.int p.1, .int p.2]))
      [some (.lsr (ns.map .int)), some (.ref 0), some (.ref 1), none, none, none, none, none, none, none, none, none, none] [o2, spW l] [] = some (l.map (fun p => strW p.1 p.2), [o2, spW l]) := by
    rw [compL_map (g := fun p : Int × Int => W.tup [.int p.1, .int p.2]) (f := fun p => strW p.1 p.2) (by simp [Src.ok, spW, beqs_refl]) _ _ (by simp; omega) (by
      intro p hp
      simp)]
    simp
  obtain ⟨r6, S6, e6, l6, o6, u3, u6, u7, u8, u9, u10, u11, u12, b6, hok6, hl6, hl6', -, rfl, rfl⟩ := forL_inv (ok := Src.ok ⟨rangeW 0 (1 + t).toNat, none⟩) (tg := tgN 6) (body := turnB) (ws := rangeW 0 (1 + t).toNat) (r := envL (some (.lsr (ns.map .int))) none none none none none none none none) (S := [o2, spW l, thW l, o4])
    (fun i r S => ∃ (l : List (Int × Int)) (ob : Ob) (u3 u6 u7 u8 u9 u10 u11 u12 : Option W), Bag ob ∧ Ok l ∧ 2 ≤ l.length ∧ l.length ≤ 4 + i ∧ i ≤ 13 ∧ r = envL (some (.lsr (ns.map .int))) u3 u6 u7 u8 u9 u10 u11 u12 ∧ S = [o2, spW l, thW l, ob])
    ⟨l, o4, none, none, none, none, none, none, none, none, b4, hok, by omega, by omega, by omega, rfl, rfl⟩ (by simp) (by
      rintro i w r S hw ⟨l, ob, u3, u6, u7, u8, u9, u10, u11, u12, hb, hl, h1, h2, h3, rfl, rfl⟩
      obtain ⟨hi, rfl⟩ := rangeW_get hw
      obtain ⟨v3, v7, v8, v9, v10, v11, v12, ob', p, hb', hp, e⟩ := turn_step (some (.lsr (ns.map .int))) u3 (some (.int (0 + (i : Int)))) u7 u8 u9 u10 u11 u12 o2 ob l hb hl h1 (by omega)
      refine ⟨_, _, _, _, rfl, e, l ++ [p], ob', _, _, _, _, _, _, _, _, hb', ?_, by simp; omega, by simp; omega, by omega, rfl, rfl⟩
      intro q hq
      rcases List.mem_append.1 hq with h | h
      · exact hl q h
      · exact hp q h)
  have hr7 : -(2 ^ 62) ≤ (l6.length : Int) ∧ (l6.length : Int) < 2 ^ 62 := by rw [rangeW_len] at hl6'; omega
  obtain ⟨r7, e7, -⟩ := forL_all' (ok := Src.ok ⟨rangeW 0 l6.length, none⟩) (i := 3) (body := lastB) (ws := rangeW 0 l6.length) (r := envL (some (.lsr (ns.map .int))) u3 u6 u7 u8 u9 u10 u11 u12) (S := [o2, spW l6, thW l6, o6]) (by simp) (by
    intro i w hw
    obtain ⟨hi, rfl⟩ := rangeW_get hw
    simp [lastB, -run_f2, ixK_sp hi, ixK_th hi, stands_run])
  simp [-r_rg1K, sem_law, b_law_two, b_law2, eb0, e1, -run_f2, -run_f4]
  rw [r_rg1K hr]
  simp [-r_rg1K, -run_f2, -run_f4, e2]
  have hsp : ∀ l : List (Int × Int), Ob.lst (l.map fun p => W.tup [.int p.1, .int p.2]) = spW l := fun _ => rfl
  have hth : ∀ l : List (Int × Int), Ob.lst (l.map fun p => strW p.1 p.2) = thW l := fun _ => rfl
  rw [hsp, e5]
  simp [-r_rg1K, -run_f2, -run_f4]
  rw [hth]
  simp [-r_rg1K, -run_f2, -run_f4, eb3, e4]
  rw [r_rg1K hr2]
  simp [-r_rg1K, -run_f2, -run_f4]
  rw [e6]
  simp [-r_rg1K, -run_f2, -run_f4]
  rw [r_rg1K hr7]
  simp [-r_rg1K, -run_f2, -run_f4]
  rw [e7]
  simp
end Pg
set_option maxRecDepth 100000
namespace Pg
open PySem L2 Zw
theorem ty_all {p : String → Prop} (h1 : p "NoneType") (h2 : p "bool") (h3 : p "int") (h4 : p "str") (h5 : p "tuple") (h6 : p "list") (h7 : p "dict") : ∀ t ∈ tyNames, p t := by
  intro t ht
  simp only [tyNames, List.mem_cons, List.mem_nil_iff, or_false] at ht
  rcases ht with rfl | rfl | rfl | rfl | rfl | rfl | rfl <;> assumption
theorem mkTxt {K : PySem.W.Frag} {h : Heap} {mg : Str → Option Value} (X : K.In h) (G : h.Ns mainGlobals mg) {f1 : Addr} {od1 an1 : Option Addr} {sl1 : Array (Option Value)} {oc1 kV1 dc1 pm1 cd1 ct1 : Value} {f2 : Addr} {od2 an2 : Option Addr} {sl2 : Array (Option Value)} {oc2 kV2 dc2 pm2 cd2 ct2 : Value} {f3 : Addr} {od3 an3 : Option Addr} {sl3 : Array (Option Value)} {oc3 kV3 dc3 pm3 cd3 ct3 : Value} {f4 : Addr} {od4 an4 : Option Addr} {sl4 : Array (Option Value)} {oc4 kV4 dc4 pm4 cd4 ct4 : Value} {f5 : Addr} {od5 an5 : Option Addr} {sl5 : Array (Option Value)} {oc5 kV5 dc5 pm5 cd5 ct5 : Value} {f6 : Addr} {od6 an6 : Option Addr} {sl6 : Array (Option Value)} {oc6 kV6 dc6 pm6 cd6 ct6 : Value} {f7 : Addr} {od7 an7 : Option Addr} {sl7 : Array (Option Value)} {oc7 kV7 dc7 pm7 cd7 ct7 : Value} {f8 : Addr} {od8 an8 : Option Addr} {sl8 : Array (Option Value)} {oc8 kV8 dc8 pm8 cd8 ct8 : Value} {f9 : Addr} {od9 an9 : Option Addr} {sl9 : Array (Option Value)} {oc9 kV9 dc9 pm9 cd9 ct9 : Value} {f10 : Addr} {od10 an10 : Option Addr} {sl10 : Array (Option Value)} {oc10 kV10 dc10 pm10 cd10 ct10 : Value} {f11 : Addr} {od11 an11 : Option Addr} {sl11 : Array (Option Value)} {oc11 kV11 dc11 pm11 cd11 ct11 : Value} {f12 : Addr} {od12 an12 : Option Addr} {sl12 : Array (Option Value)} {oc12 kV12 dc12 pm12 cd12 ct12 : Value} {f13 : Addr} {od13 an13 : Option Addr} {sl13 : Array (Option Value)} {oc13 kV13 dc13 pm13 cd13 ct13 : Value} {f14 : Addr} {od14 an14 : Option Addr} {sl14 : Array (Option Value)} {oc14 kV14 dc14 pm14 cd14 ct14 : Value} {f15 : Addr} {od15 an15 : Option Addr} {sl15 : Array (Option Value)} {oc15 kV15 dc15 pm15 cd15 ct15 : Value} {f16 : Addr} {od16 an16 : Option Addr} {sl16 : Array (Option Value)} {oc16 kV16 dc16 pm16 cd16 ct16 : Value} {f17 : Addr} {od17 an17 : Option Addr} {sl17 : Array (Option Value)} {oc17 kV17 dc17 pm17 cd17 ct17 : Value} {t_GREATEST : Tok} {t_LEAST : Tok} {C_Stretch : Addr} {f18 : Addr} {od18 an18 : Option Addr} {sl18 : Array (Option Value)} {oc18 kV18 dc18 pm18 cd18 ct18 : Value} {pp19 : Addr} {rest19 : List Value} {f19 : Addr} {od19 an19 : Option Addr} {sl19 : Array (Option Value)} {oc19 kV19 dc19 pm19 cd19 ct19 : Value} {f20 : Addr} {od20 an20 : Option Addr} {sl20 : Array (Option Value)} {oc20 kV20 dc20 pm20 cd20 ct20 : Value} {f21 : Addr} {od21 an21 : Option Addr} {sl21 : Array (Option Value)} {oc21 kV21 dc21 pm21 cd21 ct21 : Value} {f22 : Addr} {od22 an22 : Option Addr} {sl22 : Array (Option Value)} {oc22 kV22 dc22 pm22 cd22 ct22 : Value} {f23 : Addr} {od23 an23 : Option Addr} {sl23 : Array (Option Value)} {oc23 kV23 dc23 pm23 cd23 ct23 : Value} {f24 : Addr} {od24 an24 : Option Addr} {sl24 : Array (Option Value)} {oc24 kV24 dc24 pm24 cd24 ct24 : Value} {f25 : Addr} {od25 an25 : Option Addr} {sl25 : Array (Option Value)} {oc25 kV25 dc25 pm25 cd25 ct25 : Value} {f26 : Addr} {od26 an26 : Option Addr} {sl26 : Array (Option Value)} {oc26 kV26 dc26 pm26 cd26 ct26 : Value} {f27 : Addr} {od27 an27 : Option Addr} {sl27 : Array (Option Value)} {oc27 kV27 dc27 pm27 cd27 ct27 : Value} {f28 : Addr} {od28 an28 : Option Addr} {sl28 : Array (Option Value)} {oc28 kV28 dc28 pm28 cd28 ct28 : Value} {f29 : Addr} {od29 an29 : Option Addr} {sl29 : Array (Option Value)} {oc29 kV29 dc29 pm29 cd29 ct29 : Value} {f30 : Addr} {od30 an30 : Option Addr} {sl30 : Array (Option Value)} {oc30 kV30 dc30 pm30 cd30 ct30 : Value} {f31 : Addr} {od31 an31 : Option Addr} {sl31 : Array (Option Value)} {oc31 kV31 dc31 pm31 cd31 ct31 : Value}
    (q1 : PySem.W.nsIn K mainGlobals "clamp" = some (some (.ref f1)))
    (q2 : K.lookup f1 = some ⟨oc1, od1, .func (PySem.W.fnOf "clamp" "clamp" (defArgs (top 3)) (defBody (top 3)) (defScope (top 3)) .none kV1 dc1 pm1 an1 cd1 ct1), sl1⟩)
    (q3 : PySem.W.codeIn K cd1 "clamp" = true)
    (q4 : PySem.W.keepIn K (.ref f1) = true)
    (q5 : PySem.W.nsIn K mainGlobals "saturate" = some (some (.ref f2)))
    (q6 : K.lookup f2 = some ⟨oc2, od2, .func (PySem.W.fnOf "saturate" "saturate" (defArgs (top 4)) (defBody (top 4)) (defScope (top 4)) .none kV2 dc2 pm2 an2 cd2 ct2), sl2⟩)
    (q7 : PySem.W.codeIn K cd2 "saturate" = true)
    (q8 : PySem.W.keepIn K (.ref f2) = true)
    (q9 : PySem.W.nsIn K mainGlobals "_law_bag" = some (some (.ref f3)))
    (q10 : K.lookup f3 = some ⟨oc3, od3, .func (PySem.W.fnOf "_law_bag" "_law_bag" (defArgs (top 8)) (defBody (top 8)) (defScope (top 8)) .none kV3 dc3 pm3 an3 cd3 ct3), sl3⟩)
    (q11 : PySem.W.codeIn K cd3 "_law_bag" = true)
    (q12 : PySem.W.keepIn K (.ref f3) = true)
    (q13 : PySem.W.nsIn K mainGlobals "_law_take" = some (some (.ref f4)))
    (q14 : K.lookup f4 = some ⟨oc4, od4, .func (PySem.W.fnOf "_law_take" "_law_take" (defArgs (top 9)) (defBody (top 9)) (defScope (top 9)) .none kV4 dc4 pm4 an4 cd4 ct4), sl4⟩)
    (q15 : PySem.W.codeIn K cd4 "_law_take" = true)
    (q16 : PySem.W.keepIn K (.ref f4) = true)
    (q17 : PySem.W.nsIn K mainGlobals "_law_pick" = some (some (.ref f5)))
    (q18 : K.lookup f5 = some ⟨oc5, od5, .func (PySem.W.fnOf "_law_pick" "_law_pick" (defArgs (top 10)) (defBody (top 10)) (defScope (top 10)) .none kV5 dc5 pm5 an5 cd5 ct5), sl5⟩)
    (q19 : PySem.W.codeIn K cd5 "_law_pick" = true)
    (q20 : PySem.W.keepIn K (.ref f5) = true)
    (q21 : PySem.W.nsIn K mainGlobals "_law_same" = some (some (.ref f6)))
    (q22 : K.lookup f6 = some ⟨oc6, od6, .func (PySem.W.fnOf "_law_same" "_law_same" (defArgs (top 11)) (defBody (top 11)) (defScope (top 11)) .none kV6 dc6 pm6 an6 cd6 ct6), sl6⟩)
    (q23 : PySem.W.codeIn K cd6 "_law_same" = true)
    (q24 : PySem.W.keepIn K (.ref f6) = true)
    (q25 : PySem.W.nsIn K mainGlobals "_law_end" = some (some (.ref f7)))
    (q26 : K.lookup f7 = some ⟨oc7, od7, .func (PySem.W.fnOf "_law_end" "_law_end" (defArgs (top 12)) (defBody (top 12)) (defScope (top 12)) .none kV7 dc7 pm7 an7 cd7 ct7), sl7⟩)
    (q27 : PySem.W.codeIn K cd7 "_law_end" = true)
    (q28 : PySem.W.keepIn K (.ref f7) = true)
    (q29 : PySem.W.nsIn K mainGlobals "_law_span" = some (some (.ref f8)))
    (q30 : K.lookup f8 = some ⟨oc8, od8, .func (PySem.W.fnOf "_law_span" "_law_span" (defArgs (top 13)) (defBody (top 13)) (defScope (top 13)) .none kV8 dc8 pm8 an8 cd8 ct8), sl8⟩)
    (q31 : PySem.W.codeIn K cd8 "_law_span" = true)
    (q32 : PySem.W.keepIn K (.ref f8) = true)
    (q33 : PySem.W.nsIn K mainGlobals "_law_some" = some (some (.ref f9)))
    (q34 : K.lookup f9 = some ⟨oc9, od9, .func (PySem.W.fnOf "_law_some" "_law_some" (defArgs (top 14)) (defBody (top 14)) (defScope (top 14)) .none kV9 dc9 pm9 an9 cd9 ct9), sl9⟩)
    (q35 : PySem.W.codeIn K cd9 "_law_some" = true)
    (q36 : PySem.W.keepIn K (.ref f9) = true)
    (q37 : PySem.W.nsIn K mainGlobals "_law_outcome" = some (some (.ref f10)))
    (q38 : K.lookup f10 = some ⟨oc10, od10, .func (PySem.W.fnOf "_law_outcome" "_law_outcome" (defArgs (top 15)) (defBody (top 15)) (defScope (top 15)) .none kV10 dc10 pm10 an10 cd10 ct10), sl10⟩)
    (q39 : PySem.W.codeIn K cd10 "_law_outcome" = true)
    (q40 : PySem.W.keepIn K (.ref f10) = true)
    (q41 : PySem.W.nsIn K mainGlobals "_law_outcomes" = some (some (.ref f11)))
    (q42 : K.lookup f11 = some ⟨oc11, od11, .func (PySem.W.fnOf "_law_outcomes" "_law_outcomes" (defArgs (top 16)) (defBody (top 16)) (defScope (top 16)) .none kV11 dc11 pm11 an11 cd11 ct11), sl11⟩)
    (q43 : PySem.W.codeIn K cd11 "_law_outcomes" = true)
    (q44 : PySem.W.keepIn K (.ref f11) = true)
    (q45 : PySem.W.nsIn K mainGlobals "_law_made" = some (some (.ref f12)))
    (q46 : K.lookup f12 = some ⟨oc12, od12, .func (PySem.W.fnOf "_law_made" "_law_made" (defArgs (top 17)) (defBody (top 17)) (defScope (top 17)) .none kV12 dc12 pm12 an12 cd12 ct12), sl12⟩)
    (q47 : PySem.W.codeIn K cd12 "_law_made" = true)
    (q48 : PySem.W.keepIn K (.ref f12) = true)
    (q49 : PySem.W.nsIn K mainGlobals "_law_stands" = some (some (.ref f13)))
    (q50 : K.lookup f13 = some ⟨oc13, od13, .func (PySem.W.fnOf "_law_stands" "_law_stands" (defArgs (top 18)) (defBody (top 18)) (defScope (top 18)) .none kV13 dc13 pm13 an13 cd13 ct13), sl13⟩)
    (q51 : PySem.W.codeIn K cd13 "_law_stands" = true)
    (q52 : PySem.W.keepIn K (.ref f13) = true)
    (q53 : PySem.W.nsIn K mainGlobals "_law_beside" = some (some (.ref f14)))
    (q54 : K.lookup f14 = some ⟨oc14, od14, .func (PySem.W.fnOf "_law_beside" "_law_beside" (defArgs (top 19)) (defBody (top 19)) (defScope (top 19)) .none kV14 dc14 pm14 an14 cd14 ct14), sl14⟩)
    (q55 : PySem.W.codeIn K cd14 "_law_beside" = true)
    (q56 : PySem.W.keepIn K (.ref f14) = true)
    (q57 : PySem.W.nsIn K mainGlobals "_law_holds" = some (some (.ref f15)))
    (q58 : K.lookup f15 = some ⟨oc15, od15, .func (PySem.W.fnOf "_law_holds" "_law_holds" (defArgs (top 20)) (defBody (top 20)) (defScope (top 20)) .none kV15 dc15 pm15 an15 cd15 ct15), sl15⟩)
    (q59 : PySem.W.codeIn K cd15 "_law_holds" = true)
    (q60 : PySem.W.keepIn K (.ref f15) = true)
    (q61 : PySem.W.nsIn K mainGlobals "_law_alike" = some (some (.ref f16)))
    (q62 : K.lookup f16 = some ⟨oc16, od16, .func (PySem.W.fnOf "_law_alike" "_law_alike" (defArgs (top 21)) (defBody (top 21)) (defScope (top 21)) .none kV16 dc16 pm16 an16 cd16 ct16), sl16⟩)
    (q63 : PySem.W.codeIn K cd16 "_law_alike" = true)
    (q64 : PySem.W.keepIn K (.ref f16) = true)
    (q65 : PySem.W.nsIn K mainGlobals "law" = some (some (.ref f17)))
    (q66 : K.lookup f17 = some ⟨oc17, od17, .func (PySem.W.fnOf "law" "law" (defArgs (top 22)) (defBody (top 22)) (defScope (top 22)) .none kV17 dc17 pm17 an17 cd17 ct17), sl17⟩)
    (q67 : PySem.W.codeIn K cd17 "law" = true)
    (q68 : PySem.W.keepIn K (.ref f17) = true)
    (q69 : PySem.W.nsIn K mainGlobals "abs" = some none)
    (q70 : PySem.W.nsIn K mainGlobals "bool" = some none)
    (q71 : PySem.W.nsIn K mainGlobals "int" = some none)
    (q72 : PySem.W.nsIn K mainGlobals "isinstance" = some none)
    (q73 : PySem.W.nsIn K mainGlobals "len" = some none)
    (q74 : PySem.W.nsIn K mainGlobals "list" = some none)
    (q75 : PySem.W.nsIn K mainGlobals "max" = some none)
    (q76 : PySem.W.nsIn K mainGlobals "min" = some none)
    (q77 : PySem.W.nsIn K mainGlobals "range" = some none)
    (q78 : PySem.W.nsIn K mainGlobals "str" = some none)
    (q79 : PySem.W.nsIn K mainGlobals "tuple" = some none)
    (q80 : PySem.W.nsIn K mainGlobals "GREATEST" = some (some (.int (999999) t_GREATEST)))
    (q81 : PySem.W.nsIn K mainGlobals "LEAST" = some (some (.int ((-999999)) t_LEAST)))
    (q82 : PySem.W.nsIn K mainGlobals "Stretch" = some (some (.ref C_Stretch)))
    (q83 : PySem.W.plainGet K C_Stretch Str.empty = true)
    (q84 : PySem.W.hasDictIn K C_Stretch = true)
    (q85 : PySem.W.plainOver K C_Stretch = true)
    (q86 : PySem.W.findIn K (.ref C_Stretch) "__setattr__" = some (some (.builtin "object.__setattr__")))
    (q87 : PySem.W.findIn K (.ref C_Stretch) "__class__" = some (some (.builtin "object.__class__")))
    (q88 : PySem.W.specialIn K (.builtin "object.__class__") "__get__" = some (some (.builtin "getset_descriptor.__get__")))
    (q89 : PySem.W.takesIn K (.builtin "object.__class__") = some true)
    (q90 : PySem.W.mroIn K C_Stretch (.type "object") = some true)
    (q91 : PySem.W.kitOne K (.type "NoneType") (.ref C_Stretch) = some false)
    (q92 : PySem.W.kitOne K (.type "bool") (.ref C_Stretch) = some false)
    (q93 : PySem.W.kitOne K (.type "int") (.ref C_Stretch) = some false)
    (q94 : PySem.W.kitOne K (.type "str") (.ref C_Stretch) = some false)
    (q95 : PySem.W.kitOne K (.type "tuple") (.ref C_Stretch) = some false)
    (q96 : PySem.W.kitOne K (.type "list") (.ref C_Stretch) = some false)
    (q97 : PySem.W.kitOne K (.type "dict") (.ref C_Stretch) = some false)
    (q98 : PySem.W.kitOne K (.ref C_Stretch) (.type "NoneType") = some false)
    (q99 : PySem.W.kitOne K (.ref C_Stretch) (.type "bool") = some false)
    (q100 : PySem.W.kitOne K (.ref C_Stretch) (.type "int") = some false)
    (q101 : PySem.W.kitOne K (.ref C_Stretch) (.type "str") = some false)
    (q102 : PySem.W.kitOne K (.ref C_Stretch) (.type "tuple") = some false)
    (q103 : PySem.W.kitOne K (.ref C_Stretch) (.type "list") = some false)
    (q104 : PySem.W.kitOne K (.ref C_Stretch) (.type "dict") = some false)
    (q105 : PySem.W.findIn K (.ref C_Stretch) "low" = some none)
    (q106 : PySem.W.findIn K (.ref C_Stretch) "high" = some none)
    (q107 : PySem.W.findIn K (.ref C_Stretch) "__init__" = some (some (.ref f18)))
    (q108 : PySem.W.isFn K (.ref f18) = true)
    (q109 : K.lookup f18 = some ⟨oc18, od18, .func (PySem.W.fnOf "__init__" "Stretch.__init__" (defArgs (inClass (top 6) 0)) (defBody (inClass (top 6) 0)) (defScope (inClass (top 6) 0)) .none kV18 dc18 pm18 an18 cd18 ct18), sl18⟩)
    (q110 : PySem.W.codeIn K cd18 "Stretch.__init__" = true)
    (q111 : PySem.W.keepIn K (.ref f18) = true)
    (q112 : PySem.W.makesIn K C_Stretch = true)
    (q113 : PySem.W.keepIn K (.ref C_Stretch) = true)
    (q114 : PySem.W.readsIn K C_Stretch (.type "type") = true)
    (q115 : PySem.W.specialIn K (.ref C_Stretch) "__getattribute__" = some (some (.builtin "type.__getattribute__")))
    (q116 : PySem.W.findCls K (.ref C_Stretch) (.type "type") "point" = some (.get (.builtin "staticmethod.__get__") (.ref pp19) .none (.ref C_Stretch)))
    (q117 : PySem.W.recIn K pp19 "staticmethod" = some (.ref f19 :: rest19))
    (q118 : K.lookup f19 = some ⟨oc19, od19, .func (PySem.W.fnOf "point" "Stretch.point" (defArgs (inClass (top 6) 1)) (defBody (inClass (top 6) 1)) (defScope (inClass (top 6) 1)) .none kV19 dc19 pm19 an19 cd19 ct19), sl19⟩)
    (q119 : PySem.W.codeIn K cd19 "Stretch.point" = true)
    (q120 : PySem.W.keepIn K (.ref f19) = true)
    (q121 : PySem.W.findIn K (.ref C_Stretch) "__eq__" = some (some (.ref f20)))
    (q122 : PySem.W.isFn K (.ref f20) = true)
    (q123 : K.lookup f20 = some ⟨oc20, od20, .func (PySem.W.fnOf "__eq__" "Stretch.__eq__" (defArgs (inClass (top 6) 2)) (defBody (inClass (top 6) 2)) (defScope (inClass (top 6) 2)) .none kV20 dc20 pm20 an20 cd20 ct20), sl20⟩)
    (q124 : PySem.W.codeIn K cd20 "Stretch.__eq__" = true)
    (q125 : PySem.W.keepIn K (.ref f20) = true)
    (q126 : PySem.W.selfFirst K C_Stretch = true)
    (q127 : PySem.W.subIn K (.type "NoneType") (.ref C_Stretch) = some false)
    (q128 : PySem.W.subIn K (.type "bool") (.ref C_Stretch) = some false)
    (q129 : PySem.W.subIn K (.type "int") (.ref C_Stretch) = some false)
    (q130 : PySem.W.subIn K (.type "str") (.ref C_Stretch) = some false)
    (q131 : PySem.W.subIn K (.type "tuple") (.ref C_Stretch) = some false)
    (q132 : PySem.W.subIn K (.type "list") (.ref C_Stretch) = some false)
    (q133 : PySem.W.subIn K (.type "dict") (.ref C_Stretch) = some false)
    (q134 : PySem.W.findIn K (.ref C_Stretch) "__contains__" = some (some (.ref f21)))
    (q135 : PySem.W.isFn K (.ref f21) = true)
    (q136 : K.lookup f21 = some ⟨oc21, od21, .func (PySem.W.fnOf "__contains__" "Stretch.__contains__" (defArgs (inClass (top 6) 3)) (defBody (inClass (top 6) 3)) (defScope (inClass (top 6) 3)) .none kV21 dc21 pm21 an21 cd21 ct21), sl21⟩)
    (q137 : PySem.W.codeIn K cd21 "Stretch.__contains__" = true)
    (q138 : PySem.W.keepIn K (.ref f21) = true)
    (q139 : PySem.W.findIn K (.ref C_Stretch) "__add__" = some (some (.ref f22)))
    (q140 : PySem.W.isFn K (.ref f22) = true)
    (q141 : K.lookup f22 = some ⟨oc22, od22, .func (PySem.W.fnOf "__add__" "Stretch.__add__" (defArgs (inClass (top 6) 4)) (defBody (inClass (top 6) 4)) (defScope (inClass (top 6) 4)) .none kV22 dc22 pm22 an22 cd22 ct22), sl22⟩)
    (q142 : PySem.W.codeIn K cd22 "Stretch.__add__" = true)
    (q143 : PySem.W.keepIn K (.ref f22) = true)
    (q144 : PySem.W.findIn K (.ref C_Stretch) "__sub__" = some (some (.ref f23)))
    (q145 : PySem.W.isFn K (.ref f23) = true)
    (q146 : K.lookup f23 = some ⟨oc23, od23, .func (PySem.W.fnOf "__sub__" "Stretch.__sub__" (defArgs (inClass (top 6) 5)) (defBody (inClass (top 6) 5)) (defScope (inClass (top 6) 5)) .none kV23 dc23 pm23 an23 cd23 ct23), sl23⟩)
    (q147 : PySem.W.codeIn K cd23 "Stretch.__sub__" = true)
    (q148 : PySem.W.keepIn K (.ref f23) = true)
    (q149 : PySem.W.findIn K (.ref C_Stretch) "__mul__" = some (some (.ref f24)))
    (q150 : PySem.W.isFn K (.ref f24) = true)
    (q151 : K.lookup f24 = some ⟨oc24, od24, .func (PySem.W.fnOf "__mul__" "Stretch.__mul__" (defArgs (inClass (top 6) 6)) (defBody (inClass (top 6) 6)) (defScope (inClass (top 6) 6)) .none kV24 dc24 pm24 an24 cd24 ct24), sl24⟩)
    (q152 : PySem.W.codeIn K cd24 "Stretch.__mul__" = true)
    (q153 : PySem.W.keepIn K (.ref f24) = true)
    (q154 : PySem.W.findIn K (.ref C_Stretch) "__or__" = some (some (.ref f25)))
    (q155 : PySem.W.isFn K (.ref f25) = true)
    (q156 : K.lookup f25 = some ⟨oc25, od25, .func (PySem.W.fnOf "__or__" "Stretch.__or__" (defArgs (inClass (top 6) 7)) (defBody (inClass (top 6) 7)) (defScope (inClass (top 6) 7)) .none kV25 dc25 pm25 an25 cd25 ct25), sl25⟩)
    (q157 : PySem.W.codeIn K cd25 "Stretch.__or__" = true)
    (q158 : PySem.W.keepIn K (.ref f25) = true)
    (q159 : PySem.W.findIn K (.ref C_Stretch) "least" = some (some (.ref f26)))
    (q160 : PySem.W.isFn K (.ref f26) = true)
    (q161 : K.lookup f26 = some ⟨oc26, od26, .func (PySem.W.fnOf "least" "Stretch.least" (defArgs (inClass (top 6) 8)) (defBody (inClass (top 6) 8)) (defScope (inClass (top 6) 8)) .none kV26 dc26 pm26 an26 cd26 ct26), sl26⟩)
    (q162 : PySem.W.codeIn K cd26 "Stretch.least" = true)
    (q163 : PySem.W.keepIn K (.ref f26) = true)
    (q164 : PySem.W.findIn K (.ref C_Stretch) "greatest" = some (some (.ref f27)))
    (q165 : PySem.W.isFn K (.ref f27) = true)
    (q166 : K.lookup f27 = some ⟨oc27, od27, .func (PySem.W.fnOf "greatest" "Stretch.greatest" (defArgs (inClass (top 6) 9)) (defBody (inClass (top 6) 9)) (defScope (inClass (top 6) 9)) .none kV27 dc27 pm27 an27 cd27 ct27), sl27⟩)
    (q167 : PySem.W.codeIn K cd27 "Stretch.greatest" = true)
    (q168 : PySem.W.keepIn K (.ref f27) = true)
    (q169 : PySem.W.findIn K (.ref C_Stretch) "within" = some (some (.ref f28)))
    (q170 : PySem.W.isFn K (.ref f28) = true)
    (q171 : K.lookup f28 = some ⟨oc28, od28, .func (PySem.W.fnOf "within" "Stretch.within" (defArgs (inClass (top 6) 10)) (defBody (inClass (top 6) 10)) (defScope (inClass (top 6) 10)) .none kV28 dc28 pm28 an28 cd28 ct28), sl28⟩)
    (q172 : PySem.W.codeIn K cd28 "Stretch.within" = true)
    (q173 : PySem.W.keepIn K (.ref f28) = true)
    (q174 : PySem.W.findIn K (.ref C_Stretch) "is_point" = some (some (.ref f29)))
    (q175 : PySem.W.isFn K (.ref f29) = true)
    (q176 : K.lookup f29 = some ⟨oc29, od29, .func (PySem.W.fnOf "is_point" "Stretch.is_point" (defArgs (inClass (top 6) 11)) (defBody (inClass (top 6) 11)) (defScope (inClass (top 6) 11)) .none kV29 dc29 pm29 an29 cd29 ct29), sl29⟩)
    (q177 : PySem.W.codeIn K cd29 "Stretch.is_point" = true)
    (q178 : PySem.W.keepIn K (.ref f29) = true)
    (q179 : PySem.W.findIn K (.ref C_Stretch) "saturated" = some (some (.ref f30)))
    (q180 : PySem.W.isFn K (.ref f30) = true)
    (q181 : K.lookup f30 = some ⟨oc30, od30, .func (PySem.W.fnOf "saturated" "Stretch.saturated" (defArgs (inClass (top 6) 12)) (defBody (inClass (top 6) 12)) (defScope (inClass (top 6) 12)) .none kV30 dc30 pm30 an30 cd30 ct30), sl30⟩)
    (q182 : PySem.W.codeIn K cd30 "Stretch.saturated" = true)
    (q183 : PySem.W.keepIn K (.ref f30) = true)
    (q184 : PySem.W.findIn K (.ref C_Stretch) "pair" = some (some (.ref f31)))
    (q185 : PySem.W.isFn K (.ref f31) = true)
    (q186 : K.lookup f31 = some ⟨oc31, od31, .func (PySem.W.fnOf "pair" "Stretch.pair" (defArgs (inClass (top 6) 13)) (defBody (inClass (top 6) 13)) (defScope (inClass (top 6) 13)) .none kV31 dc31 pm31 an31 cd31 ct31), sl31⟩)
    (q187 : PySem.W.codeIn K cd31 "Stretch.pair" = true)
    (q188 : PySem.W.keepIn K (.ref f31) = true)
    : Txt K mg := by
  constructor
  · exact ⟨_, _, fun_mk (st := (top 3)) q2 q3 q4, PySem.W.mg_of X G q1⟩
  · exact ⟨_, _, fun_mk (st := (top 4)) q6 q7 q8, PySem.W.mg_of X G q5⟩
  · exact ⟨_, _, fun_mk (st := (top 8)) q10 q11 q12, PySem.W.mg_of X G q9⟩
  · exact ⟨_, _, fun_mk (st := (top 9)) q14 q15 q16, PySem.W.mg_of X G q13⟩
  · exact ⟨_, _, fun_mk (st := (top 10)) q18 q19 q20, PySem.W.mg_of X G q17⟩
  · exact ⟨_, _, fun_mk (st := (top 11)) q22 q23 q24, PySem.W.mg_of X G q21⟩
  · exact ⟨_, _, fun_mk (st := (top 12)) q26 q27 q28, PySem.W.mg_of X G q25⟩
  · exact ⟨_, _, fun_mk (st := (top 13)) q30 q31 q32, PySem.W.mg_of X G q29⟩
  · exact ⟨_, _, fun_mk (st := (top 14)) q34 q35 q36, PySem.W.mg_of X G q33⟩
  · exact ⟨_, _, fun_mk (st := (top 15)) q38 q39 q40, PySem.W.mg_of X G q37⟩
  · exact ⟨_, _, fun_mk (st := (top 16)) q42 q43 q44, PySem.W.mg_of X G q41⟩
  · exact ⟨_, _, fun_mk (st := (top 17)) q46 q47 q48, PySem.W.mg_of X G q45⟩
  · exact ⟨_, _, fun_mk (st := (top 18)) q50 q51 q52, PySem.W.mg_of X G q49⟩
  · exact ⟨_, _, fun_mk (st := (top 19)) q54 q55 q56, PySem.W.mg_of X G q53⟩
  · exact ⟨_, _, fun_mk (st := (top 20)) q58 q59 q60, PySem.W.mg_of X G q57⟩
  · exact ⟨_, _, fun_mk (st := (top 21)) q62 q63 q64, PySem.W.mg_of X G q61⟩
  · exact ⟨_, _, fun_mk (st := (top 22)) q66 q67 q68, PySem.W.mg_of X G q65⟩
  · exact PySem.W.mg_none_of X G q69
  · exact PySem.W.mg_none_of X G q70
  · exact PySem.W.mg_none_of X G q71
  · exact PySem.W.mg_none_of X G q72
  · exact PySem.W.mg_none_of X G q73
  · exact PySem.W.mg_none_of X G q74
  · exact PySem.W.mg_none_of X G q75
  · exact PySem.W.mg_none_of X G q76
  · exact PySem.W.mg_none_of X G q77
  · exact PySem.W.mg_none_of X G q78
  · exact PySem.W.mg_none_of X G q79
  · exact ⟨_, PySem.W.mg_of X G q80⟩
  · exact ⟨_, PySem.W.mg_of X G q81⟩
  · exact ⟨C_Stretch, PySem.W.mg_of X G q82, ⟨⟨q83, q84, q85, q86⟩, q87, q88, q89, q90, (ty_all q91 q92 q93 q94 q95 q96 q97), (ty_all q98 q99 q100 q101 q102 q103 q104)⟩, q105, q106, ⟨_, _, fun_mk (st := (inClass (top 6) 0)) q109 q110 q111, ⟨q112, q107, q108, q113⟩⟩, ⟨_, _, _, _, _, fun_mk (st := (inClass (top 6) 1)) q118 q119 q120, q114, q115, q116, q117⟩, ⟨_, _, fun_mk (st := (inClass (top 6) 2)) q123 q124 q125, q121, q122, q126, (ty_all q127 q128 q129 q130 q131 q132 q133)⟩, ⟨_, _, fun_mk (st := (inClass (top 6) 3)) q136 q137 q138, q134, q135, q126, (ty_all q127 q128 q129 q130 q131 q132 q133)⟩, ⟨_, _, fun_mk (st := (inClass (top 6) 4)) q141 q142 q143, q139, q140, q126, (ty_all q127 q128 q129 q130 q131 q132 q133)⟩, ⟨_, _, fun_mk (st := (inClass (top 6) 5)) q146 q147 q148, q144, q145, q126, (ty_all q127 q128 q129 q130 q131 q132 q133)⟩, ⟨_, _, fun_mk (st := (inClass (top 6) 6)) q151 q152 q153, q149, q150, q126, (ty_all q127 q128 q129 q130 q131 q132 q133)⟩, ⟨_, _, fun_mk (st := (inClass (top 6) 7)) q156 q157 q158, q154, q155, q126, (ty_all q127 q128 q129 q130 q131 q132 q133)⟩, ⟨_, _, fun_mk (st := (inClass (top 6) 8)) q161 q162 q163, ⟨q159, q160, q163⟩⟩, ⟨_, _, fun_mk (st := (inClass (top 6) 9)) q166 q167 q168, ⟨q164, q165, q168⟩⟩, ⟨_, _, fun_mk (st := (inClass (top 6) 10)) q171 q172 q173, ⟨q169, q170, q173⟩⟩, ⟨_, _, fun_mk (st := (inClass (top 6) 11)) q176 q177 q178, ⟨q174, q175, q178⟩⟩, ⟨_, _, fun_mk (st := (inClass (top 6) 12)) q181 q182 q183, ⟨q179, q180, q183⟩⟩, ⟨_, _, fun_mk (st := (inClass (top 6) 13)) q186 q187 q188, ⟨q184, q185, q188⟩⟩⟩
def spLaw (K : PySem.W.Frag) : Sp := fun vs H Q _ => ∃ (a : Addr) (ns : List Int), vs = [.ref a] ∧ SqL K H a (ns.map V.int) ∧ ns.length ≤ 63 ∧ ∀ H', Q (.bl true) H'
theorem rps_ints {K : PySem.W.Frag} {mg : Str → Option Value} {B : Addr → Prop} {m : List Addr} {H : Hp} : ∀ ns : List Int, Rps K mg B m H (ns.map W.int) (ns.map V.int)
  | [] => .nil
  | n :: ns => .cons (.int n) (rps_ints ns)
theorem fin {K : PySem.W.Frag} {mg : Str → Option Value} {P : Program} {w : World} {fa : Addr} (T : Txt K mg) (hfa : mg "law" = some (.ref fa)) : ∃ fd : FuncData, (∀ (s : Shared) (v : Value), BindsTo s fd ⟨[v], []⟩ [("script", v)]) ∧ ∀ base : Heap, K.In base → base.Ns mainGlobals mg → FnOk P w K mg base CX0 10 fa fd ["script"] (spLaw K) := by
  obtain ⟨f, fd, F, g⟩ := T.f_law
  cases hfa.symm.trans g
  have F' := F
  obtain ⟨oc, od, kV, doc, pm, an, cdv, ct, osl, rfl, lk, hcd⟩ := F.ex
  refine ⟨_, fun s v => .of_eq rfl, fun base _ _ => (ok_law T F').imp fun vs H Q E h => ?_⟩
  obtain ⟨a, ns, rfl, hS, hl, k⟩ := h
  obtain ⟨S', e⟩ := law_true ns
  refine ⟨rfl, fun _ => False, [], [], [.lsr (ns.map .int)], .bl true, S', ⟨List.nodup_nil, rfl, fun _ h => (by cases h), fun _ h => h.elim, fun _ _ _ h => (by cases h)⟩, ?_, e, ?_⟩
  · refine .cons (.lsr (vs := ns.map V.int) ?_ (rps_ints ns)) .nil
    rcases hS with h | h
    · exact .inl ⟨fun h => h, h⟩
    · exact .inr h
  · intro B' m' H' v _ _ r
    cases r
    exact k H'
theorem walk {l : PySem.W.OpenLaw} {q : Program} {loose : List Str} {XP : (Str → Option Value) → Heap → Prop} {YP : World → Heap → Prop} {d : DefRec} {K : Params → PySem.W.Frag} (hn : l.most = some 63) (hdf : d.params.defaults = [])
    (hY : ∀ (w : World) (h : Heap), YP w h → (K w.params).In h)
    (F : ∀ (w : World) (mg : Str → Option Value) (fa : Addr) (h : Heap), (K w.params).In h → h.Ns mainGlobals mg → mg d.name = some (.ref fa) →
      ∃ fd : FuncData, (∀ (s : Shared) (u : Value), BindsTo s fd ⟨[u], []⟩ [("script", u)]) ∧ ∀ base : Heap, (K w.params).In base → base.Ns mainGlobals mg → FnOk l.prog w (K w.params) mg base CX0 10 fa fd ["script"] (spLaw (K w.params))) :
    PySem.W.WalkO q loose XP YP l.row.toRowW d [] (fun f vs => PySem.call f vs) :=
  L2.walk_of (n := 63) (k := 10) (x := "script") (CX := fun _ => CX0) (sp := fun w => spLaw (K w.params)) hn (by decide) hdf ⟨rfl, by decide, by decide⟩ hY F (fun _ _ a ns hl _ hS => ⟨a, ns, rfl, hS, hl, fun _ => rfl⟩) fun _ _ _ _ _ z => z
end Pg
set_option maxRecDepth 100000
open PySem PySem.W PyProof.Rows in
set_option maxRecDepth 100000 in
set_option maxHeartbeats 0 in
theorem PySem.Challenge.cw_rungstead_k64_stretches_holds : PySem.Challenge.rw_rungstead_k64_stretches.Holds := by
  w_on; o_law; k_head; (case hw => w_witness2)
  k_fill
  refine Pg.walk (l := PySem.Challenge.rw_rungstead_k64_stretches) rfl rfl (fun w h Y => PySem.W.kIn_of Y) ?F
  case F =>
    intro w mg fa h KX G hmg
    refine Pg.fin ?T hmg
    case T =>
    refine' Pg.mkTxt KX G ?q1 ?q2 ?q3 ?q4 ?q5 ?q6 ?q7 ?q8 ?q9 ?q10 ?q11 ?q12 ?q13 ?q14 ?q15 ?q16 ?q17 ?q18 ?q19 ?q20 ?q21 ?q22 ?q23 ?q24 ?q25 ?q26 ?q27 ?q28 ?q29 ?q30 ?q31 ?q32 ?q33 ?q34 ?q35 ?q36 ?q37 ?q38 ?q39 ?q40 ?q41 ?q42 ?q43 ?q44 ?q45 ?q46 ?q47 ?q48 ?q49 ?q50 ?q51 ?q52 ?q53 ?q54 ?q55 ?q56 ?q57 ?q58 ?q59 ?q60 ?q61 ?q62 ?q63 ?q64 ?q65 ?q66 ?q67 ?q68 ?q69 ?q70 ?q71 ?q72 ?q73 ?q74 ?q75 ?q76 ?q77 ?q78 ?q79 ?q80 ?q81 ?q82 ?q83 ?q84 ?q85 ?q86 ?q87 ?q88 ?q89 ?q90 ?q91 ?q92 ?q93 ?q94 ?q95 ?q96 ?q97 ?q98 ?q99 ?q100 ?q101 ?q102 ?q103 ?q104 ?q105 ?q106 ?q107 ?q108 ?q109 ?q110 ?q111 ?q112 ?q113 ?q114 ?q115 ?q116 ?q117 ?q118 ?q119 ?q120 ?q121 ?q122 ?q123 ?q124 ?q125 ?q126 ?q127 ?q128 ?q129 ?q130 ?q131 ?q132 ?q133 ?q134 ?q135 ?q136 ?q137 ?q138 ?q139 ?q140 ?q141 ?q142 ?q143 ?q144 ?q145 ?q146 ?q147 ?q148 ?q149 ?q150 ?q151 ?q152 ?q153 ?q154 ?q155 ?q156 ?q157 ?q158 ?q159 ?q160 ?q161 ?q162 ?q163 ?q164 ?q165 ?q166 ?q167 ?q168 ?q169 ?q170 ?q171 ?q172 ?q173 ?q174 ?q175 ?q176 ?q177 ?q178 ?q179 ?q180 ?q181 ?q182 ?q183 ?q184 ?q185 ?q186 ?q187 ?q188
    (case q1 => k_is)
    (case q2 => k_is)
    (case q3 => k_is)
    (case q4 => k_is)
    (case q5 => k_is)
    (case q6 => k_is)
    (case q7 => k_is)
    (case q8 => k_is)
    (case q9 => k_is)
    (case q10 => k_is)
    (case q11 => k_is)
    (case q12 => k_is)
    (case q13 => k_is)
    (case q14 => k_is)
    (case q15 => k_is)
    (case q16 => k_is)
    (case q17 => k_is)
    (case q18 => k_is)
    (case q19 => k_is)
    (case q20 => k_is)
    (case q21 => k_is)
    (case q22 => k_is)
    (case q23 => k_is)
    (case q24 => k_is)
    (case q25 => k_is)
    (case q26 => k_is)
    (case q27 => k_is)
    (case q28 => k_is)
    (case q29 => k_is)
    (case q30 => k_is)
    (case q31 => k_is)
    (case q32 => k_is)
    (case q33 => k_is)
    (case q34 => k_is)
    (case q35 => k_is)
    (case q36 => k_is)
    (case q37 => k_is)
    (case q38 => k_is)
    (case q39 => k_is)
    (case q40 => k_is)
    (case q41 => k_is)
    (case q42 => k_is)
    (case q43 => k_is)
    (case q44 => k_is)
    (case q45 => k_is)
    (case q46 => k_is)
    (case q47 => k_is)
    (case q48 => k_is)
    (case q49 => k_is)
    (case q50 => k_is)
    (case q51 => k_is)
    (case q52 => k_is)
    (case q53 => k_is)
    (case q54 => k_is)
    (case q55 => k_is)
    (case q56 => k_is)
    (case q57 => k_is)
    (case q58 => k_is)
    (case q59 => k_is)
    (case q60 => k_is)
    (case q61 => k_is)
    (case q62 => k_is)
    (case q63 => k_is)
    (case q64 => k_is)
    (case q65 => k_is)
    (case q66 => k_is)
    (case q67 => k_is)
    (case q68 => k_is)
    (case q69 => k_is)
    (case q70 => k_is)
    (case q71 => k_is)
    (case q72 => k_is)
    (case q73 => k_is)
    (case q74 => k_is)
    (case q75 => k_is)
    (case q76 => k_is)
    (case q77 => k_is)
    (case q78 => k_is)
    (case q79 => k_is)
    (case q80 => k_is)
    (case q81 => k_is)
    (case q82 => k_is)
    (case q83 => k_is)
    (case q84 => k_is)
    (case q85 => k_is)
    (case q86 => k_is)
    (case q87 => k_is)
    (case q88 => k_is)
    (case q89 => k_is)
    (case q90 => k_is)
    (case q91 => kit_is)
    (case q92 => kit_is)
    (case q93 => kit_is)
    (case q94 => kit_is)
    (case q95 => kit_is)
    (case q96 => kit_is)
    (case q97 => kit_is)
    (case q98 => kit_is)
    (case q99 => kit_is)
    (case q100 => kit_is)
    (case q101 => kit_is)
    (case q102 => kit_is)
    (case q103 => kit_is)
    (case q104 => kit_is)
    (case q105 => k_is)
    (case q106 => k_is)
    (case q107 => k_is)
    (case q108 => k_is)
    (case q109 => k_is)
    (case q110 => k_is)
    (case q111 => k_is)
    (case q112 => k_is)
    (case q113 => k_is)
    (case q114 => k_is)
    (case q115 => k_is)
    (case q116 => k_is)
    (case q117 => k_is)
    (case q118 => k_is)
    (case q119 => k_is)
    (case q120 => k_is)
    (case q121 => k_is)
    (case q122 => k_is)
    (case q123 => k_is)
    (case q124 => k_is)
    (case q125 => k_is)
    (case q126 => k_is)
    (case q127 => k_is)
    (case q128 => k_is)
    (case q129 => k_is)
    (case q130 => k_is)
    (case q131 => k_is)
    (case q132 => k_is)
    (case q133 => k_is)
    (case q134 => k_is)
    (case q135 => k_is)
    (case q136 => k_is)
    (case q137 => k_is)
    (case q138 => k_is)
    (case q139 => k_is)
    (case q140 => k_is)
    (case q141 => k_is)
    (case q142 => k_is)
    (case q143 => k_is)
    (case q144 => k_is)
    (case q145 => k_is)
    (case q146 => k_is)
    (case q147 => k_is)
    (case q148 => k_is)
    (case q149 => k_is)
    (case q150 => k_is)
    (case q151 => k_is)
    (case q152 => k_is)
    (case q153 => k_is)
    (case q154 => k_is)
    (case q155 => k_is)
    (case q156 => k_is)
    (case q157 => k_is)
    (case q158 => k_is)
    (case q159 => k_is)
    (case q160 => k_is)
    (case q161 => k_is)
    (case q162 => k_is)
    (case q163 => k_is)
    (case q164 => k_is)
    (case q165 => k_is)
    (case q166 => k_is)
    (case q167 => k_is)
    (case q168 => k_is)
    (case q169 => k_is)
    (case q170 => k_is)
    (case q171 => k_is)
    (case q172 => k_is)
    (case q173 => k_is)
    (case q174 => k_is)
    (case q175 => k_is)
    (case q176 => k_is)
    (case q177 => k_is)
    (case q178 => k_is)
    (case q179 => k_is)
    (case q180 => k_is)
    (case q181 => k_is)
    (case q182 => k_is)
    (case q183 => k_is)
    (case q184 => k_is)
    (case q185 => k_is)
    (case q186 => k_is)
    (case q187 => k_is)
    (case q188 => k_is)
