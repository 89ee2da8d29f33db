import PyProof.Rows.All
import Wide.All
import OpenK.AllK
import Wide.FinOn
import KE.KStateDown
import Lean
import HandS.ForMost
import HandS.Defaults
import HandS.Codes
import HandS.RevRange
import HandS.Rev
import HandS.TupAny
import HandS.Style
import HandS.Exc
import HandS.DictComp
import HandS.Wide
import HandS.Zip
import HandS.HeadHook4
import HandS.Head0
import HandS.Head1
import HandS.Head2
import HandS.HeadEnd
import HandS.HeadHook1
import HandS.HeadHook2
import HandS.HeadHook3
import KE.KAssignIn
import HandS.Walk
import HandS.HeadWalk
import PySem.Challenge.RW_askedfor_k42_whole_state
set_option Elab.async false
set_option linter.all false
set_option maxRecDepth 100000
set_option maxHeartbeats 4000000
namespace K42
open PySem PySem.Spec PyProof.Rows L2

/-! ### data: what the tuples of the program hold -/
inductive D where
  | non | bl (b : Bool) | int (i : Int) | str (s : Str) | adr (a : Addr) | tup (l : List D)

mutual
def Rep (K : PySem.W.Frag) (H : Hp) : D → V → Prop
  | .non, v => v = .non
  | .bl b, v => v = .bl b
  | .int i, v => v = .int i
  | .str s, v => v = .str s
  | .adr a, v => v = .ref a
  | .tup l, v => ∃ a vs, v = .ref a ∧ SqT K H a vs ∧ Reps K H l vs
def Reps (K : PySem.W.Frag) (H : Hp) : List D → List V → Prop
  | [], vs => vs = []
  | d :: ds, vs => ∃ v r, vs = v :: r ∧ Rep K H d v ∧ Reps K H ds r
end

/-- the tuples stand -/
def Le (K : PySem.W.Frag) (H H' : Hp) : Prop := ∀ a xs, SqT K H a xs → SqT K H' a xs
section
variable {K : PySem.W.Frag} {H H1 H2 : Hp} {a p : Addr} {o u : HO} {xs : List V}
theorem Le.refl : Le K H H := fun _ _ h => h
theorem Le.trans (a : Le K H H1) (b : Le K H1 H2) : Le K H H2 := fun p xs h => b p xs (a p xs h)
theorem Le.of (h : ∀ b u, H1 b = some u → (∃ xs, u = .tup xs) ∨ (∃ o xs, u = .frz o (.tup xs)) → H2 b = some u) : Le K H1 H2 := fun p xs q => by
  rcases q with (q | ⟨o, q⟩) | q
  · exact .inl (.inl (h _ _ q (.inl ⟨_, rfl⟩)))
  · exact .inl (.inr ⟨o, h _ _ q (.inr ⟨_, _, rfl⟩)⟩)
  · exact .inr q
theorem Le.new (h : Le K H H1) (n : H1 p = none) : Le K H (upd H1 p o) := h.trans (Le.of fun b u q _ => by rw [upd_ne (ne_of_none q n)]; exact q)
theorem Le.mut (h : Le K H H1) (m : H1 p = some u) (nt : ∀ xs, u ≠ .tup xs) (nf : ∀ o xs, u ≠ .frz o (.tup xs)) : Le K H (upd H1 p o) := h.trans (Le.of fun b v q z => by
  have nb : b ≠ p := fun e => by
    rw [e, m] at q
    cases q
    rcases z with ⟨xs, z⟩ | ⟨_, xs, z⟩
    · exact nt _ z
    · exact nf _ _ z
  rw [upd_ne nb]
  exact q)
theorem Le.lst (h : Le K H H1) (m : H1 p = some (.lst xs)) : Le K H (upd H1 p o) := h.mut m (fun _ e => by cases e) (fun _ _ e => by cases e)
theorem Le.ins {C dx : Addr} {fs : List (Str × V)} (h : Le K H H1) (m : H1 p = some (.ins C dx fs)) : Le K H (upd H1 p o) := h.mut m (fun _ e => by cases e) (fun _ _ e => by cases e)
theorem Le.dK {kvs : List (Key × V)} (h : Le K H H1) (m : H1 p = some (.dK kvs)) : Le K H (upd H1 p o) := h.mut m (fun _ e => by cases e) (fun _ _ e => by cases e)
theorem Le.same (h : Same H H1) : Le K H H1 := Le.of fun b u q _ => h b u q
theorem Le.after (h : Le K H H1) (s : Same H1 H2) : Le K H H2 := h.trans (Le.same s)

theorem sqt_of (h : H a = some (.tup xs)) : SqT K H a xs := .inl (.inl h)
theorem sql_of (h : H a = some (.lst xs)) : SqL K H a xs := .inl (.inl h)
theorem sqt_same (s : Same H H1) (h : SqT K H a xs) : SqT K H1 a xs := Le.same s _ _ h
theorem sqt_new (h : SqT K H a xs) (n : H p = none) : SqT K (upd H p o) a xs := Le.new Le.refl n _ _ h
theorem sqt_lst {ys : List V} (h : SqT K H a xs) (n : H p = some (.lst ys)) : SqT K (upd H p o) a xs := Le.lst Le.refl n _ _ h
theorem sqt_ins {C dx : Addr} {fs : List (Str × V)} (h : SqT K H a xs) (n : H p = some (.ins C dx fs)) : SqT K (upd H p o) a xs := Le.ins Le.refl n _ _ h
theorem sqt_dK {kvs : List (Key × V)} (h : SqT K H a xs) (n : H p = some (.dK kvs)) : SqT K (upd H p o) a xs := Le.dK Le.refl n _ _ h
theorem get_new (h : H a = some u) (n : H p = none) : upd H p o a = some u := by rw [upd_ne (ne_of_none h n)]; exact h
theorem get_ne (h : H a = some u) (n : a ≠ p) : upd H p o a = some u := by rw [upd_ne n]; exact h
theorem get_same (s : Same H H1) (h : H a = some u) : H1 a = some u := s _ _ h
theorem Same.new (h : Same H H1) (n : H1 p = none) : Same H (upd H1 p o) := fun b u q => get_new (h b u q) n
/-- what H did not know may change -/
theorem Same.mut (h : Same H H1) (n : H p = none) : Same H (upd H1 p o) := fun b u q => get_ne (h b u q) (ne_of_none q n)
theorem free_back (h : Same H H1) (n : H1 p = none) : H p = none := h.free n
theorem free_new (n : upd H a o p = none) : H p = none := by
  by_cases e : p = a
  · rw [e, upd_same] at n; cases n
  · rw [upd_ne e] at n; exact n
theorem ne_lst_ins {C dx : Addr} {fs : List (Str × V)} (h : H a = some (.lst xs)) (h' : H p = some (.ins C dx fs)) : a ≠ p := ne_of h h' (fun e => by cases e)
theorem ne_ins_lst {C dx : Addr} {fs : List (Str × V)} (h : H a = some (.ins C dx fs)) (h' : H p = some (.lst xs)) : a ≠ p := ne_of h h' (fun e => by cases e)
theorem ne_dK_ins {C dx : Addr} {fs : List (Str × V)} {kvs : List (Key × V)} (h : H a = some (.dK kvs)) (h' : H p = some (.ins C dx fs)) : a ≠ p := ne_of h h' (fun e => by cases e)
theorem ne_ins_dK {C dx : Addr} {fs : List (Str × V)} {kvs : List (Key × V)} (h : H a = some (.ins C dx fs)) (h' : H p = some (.dK kvs)) : a ≠ p := ne_of h h' (fun e => by cases e)
theorem ne_dK_lst {kvs : List (Key × V)} (h : H a = some (.dK kvs)) (h' : H p = some (.lst xs)) : a ≠ p := ne_of h h' (fun e => by cases e)
theorem ne_lst_dK {kvs : List (Key × V)} (h : H a = some (.lst xs)) (h' : H p = some (.dK kvs)) : a ≠ p := ne_of h h' (fun e => by cases e)
end

mutual
theorem Rep.mono {K : PySem.W.Frag} {H H' : Hp} (le : Le K H H') : ∀ {d : D} {v : V}, Rep K H d v → Rep K H' d v
  | .non, _, h => h
  | .bl _, _, h => h
  | .int _, _, h => h
  | .str _, _, h => h
  | .adr _, _, h => h
  | .tup _, _, ⟨a, vs, e, s, r⟩ => ⟨a, vs, e, le _ _ s, Reps.mono le r⟩
theorem Reps.mono {K : PySem.W.Frag} {H H' : Hp} (le : Le K H H') : ∀ {ds : List D} {vs : List V}, Reps K H ds vs → Reps K H' ds vs
  | [], _, h => h
  | _ :: _, _, ⟨v, r, e, h, t⟩ => ⟨v, r, e, Rep.mono le h, Reps.mono le t⟩
end
section
variable {K : PySem.W.Frag} {H : Hp}
theorem Reps.length : ∀ {ds : List D} {vs : List V}, Reps K H ds vs → vs.length = ds.length
  | [], _, h => by rw [show _ = _ from h] <;> rfl
  | _ :: _, _, ⟨v, r, e, h, t⟩ => by rw [e, List.length_cons, List.length_cons, Reps.length t]
theorem Reps.append : ∀ {ds es : List D} {vs us : List V}, Reps K H ds vs → Reps K H es us → Reps K H (ds ++ es) (vs ++ us)
  | [], _, _, _, h, h2 => by rw [show _ = _ from h]; exact h2
  | _ :: _, _, _, _, ⟨v, r, e, h, t⟩, h2 => by rw [e]; exact ⟨v, _, rfl, h, Reps.append t h2⟩
theorem Reps.one {d : D} {v : V} (h : Rep K H d v) : Reps K H [d] [v] := ⟨v, [], rfl, h, rfl⟩
theorem Reps.reverse : ∀ {ds : List D} {vs : List V}, Reps K H ds vs → Reps K H ds.reverse vs.reverse
  | [], _, h => by rw [show _ = _ from h]; exact rfl
  | _ :: _, _, ⟨v, r, e, h, t⟩ => by rw [e, List.reverse_cons, List.reverse_cons]; exact Reps.append (Reps.reverse t) (Reps.one h)
theorem Reps.split : ∀ {ds es : List D} {vs : List V}, Reps K H (ds ++ es) vs → ∃ us ws, vs = us ++ ws ∧ Reps K H ds us ∧ Reps K H es ws
  | [], _, _, h => ⟨[], _, rfl, rfl, h⟩
  | _ :: _, _, _, ⟨v, r, e, h, t⟩ => by
    obtain ⟨us, ws, e2, h1, h2⟩ := Reps.split t
    exact ⟨v :: us, ws, by rw [e, e2]; rfl, ⟨v, us, rfl, h, h1⟩, h2⟩
theorem Reps.rev {ds : List D} {vs : List V} (h : Reps K H ds.reverse vs) : ∃ us, vs = us.reverse ∧ Reps K H ds us := by
  refine ⟨vs.reverse, by rw [List.reverse_reverse], ?_⟩
  have := Reps.reverse h
  rw [List.reverse_reverse] at this
  exact this
theorem Reps.get : ∀ {ds : List D} {vs : List V} {i : Nat} {v : V}, Reps K H ds vs → vs[i]? = some v → ∃ d, ds[i]? = some d ∧ Rep K H d v
  | [], _, _, _, h, q => by rw [show _ = _ from h] at q; simp at q
  | d :: _, _, 0, _, ⟨v, r, e, h, t⟩, q => by rw [e] at q; simp at q; exact ⟨d, rfl, q ▸ h⟩
  | _ :: _, _, i + 1, _, ⟨v, r, e, h, t⟩, q => by
    rw [e] at q
    obtain ⟨d, e2, h2⟩ := Reps.get (i := i) t (by simpa using q)
    exact ⟨d, by simpa using e2, h2⟩
end

/-! ### expressions of the language: the ones that come up -/
inductive Nm where | s | k | n | u | x | z | h
  deriving DecidableEq
def Nm.str : Nm → Str
  | .s => "s" | .k => "k" | .n => "n" | .u => "u" | .x => "x" | .z => "z" | .h => "h"
theorem Nm.str_ne : ∀ {a b : Nm}, a ≠ b → ¬ a.str = b.str := by
  intro a b h
  cases a <;> cases b <;> first | exact absurd rfl h | decide +kernel
theorem Nm.dec (a b : Nm) : decide (V.str a.str = V.str b.str) = decide (a = b) := by
  by_cases e : a = b
  · subst e; simp
  · rw [decide_eq_false e]
    exact decide_eq_false fun q => Nm.str_ne e (V.str.inj q)
inductive Op where | get | put
  deriving DecidableEq
def Op.str : Op → Str | .get => "get" | .put => "put"
inductive Sg where | add | sub | mul | lt
  deriving DecidableEq
def Sg.str : Sg → Str | .add => "+" | .sub => "-" | .mul => "*" | .lt => "<"
inductive E where
  | num (i : Int) | unit | name (x : Nm) | call (f e : E) | fn (x : Nm) (e : E) | rc (h x : Nm) (e : E) | lt (x : Nm) (e f : E)
  | ite (e f g : E) | pair (e f : E) | op (s : Sg) (e f : E) | print (e f : E) | ask (o : Op) (e : E) | quoted (d : D)
def E.d : E → D
  | .num i => .tup [.str "num", .int i]
  | .unit => .tup [.str "unit"]
  | .name x => .tup [.str "name", .str x.str]
  | .call f e => .tup [.str "call", f.d, e.d]
  | .fn x e => .tup [.str "fun", .str x.str, e.d]
  | .rc h x e => .tup [.str "rec", .str h.str, .str x.str, e.d]
  | .lt x e f => .tup [.str "let", .str x.str, e.d, f.d]
  | .ite e f g => .tup [.str "if", e.d, f.d, g.d]
  | .pair e f => .tup [.str "pair", e.d, f.d]
  | .op s e f => .tup [.str "op", .str s.str, e.d, f.d]
  | .print e f => .tup [.str "print", e.d, f.d]
  | .ask o e => .tup [.str "ask", .str o.str, e.d]
  | .quoted d => .tup [.str "quoted", d]
/-- putting in -/
def E.put (y : Nm) (d : D) : E → E
  | .num i => .num i
  | .unit => .unit
  | .name x => if x = y then .quoted d else .name x
  | .call f e => .call (f.put y d) (e.put y d)
  | .fn x e => if y = x then .fn x e else .fn x (e.put y d)
  | .rc h x e => if y = h ∨ y = x then .rc h x e else .rc h x (e.put y d)
  | .lt x e f => .lt x (e.put y d) (if y = x then f else f.put y d)
  | .ite e f g => .ite (e.put y d) (f.put y d) (g.put y d)
  | .pair e f => .pair (e.put y d) (f.put y d)
  | .op s e f => .op s (e.put y d) (f.put y d)
  | .print e f => .print (e.put y d) (f.put y d)
  | .ask o e => .ask o (e.put y d)
  | .quoted q => .quoted q
def E.dep : E → Nat
  | .num _ | .unit | .name _ | .quoted _ => 1
  | .call e f | .lt _ e f | .pair e f | .op _ e f | .print e f => max e.dep f.dep + 1
  | .fn _ e | .rc _ _ e | .ask _ e => e.dep + 1
  | .ite e f g => max e.dep (max f.dep g.dep) + 1
/-- the parts, the names that are bound in each -/
def E.parts : E → List E
  | .num _ | .unit | .name _ | .quoted _ => []
  | .call e f | .lt _ e f | .pair e f | .op _ e f | .print e f => [e, f]
  | .fn _ e | .rc _ _ e | .ask _ e => [e]
  | .ite e f g => [e, f, g]
def E.bnd : E → List (List Nm)
  | .num _ | .unit | .name _ | .quoted _ => []
  | .call _ _ | .pair _ _ | .op _ _ _ | .print _ _ => [[], []]
  | .lt x _ _ => [[], [x]]
  | .fn x _ => [[x]]
  | .rc h x _ => [[h, x]]
  | .ask _ _ => [[]]
  | .ite _ _ _ => [[], [], []]
/-- the expression with other parts -/
def E.with : E → List D → D
  | .call _ _, l => .tup (.str "call" :: l)
  | .pair _ _, l => .tup (.str "pair" :: l)
  | .print _ _, l => .tup (.str "print" :: l)
  | .ite _ _ _, l => .tup (.str "if" :: l)
  | .lt x _ _, l => .tup (.str "let" :: .str x.str :: l)
  | .op s _ _, l => .tup (.str "op" :: .str s.str :: l)
  | .fn x _, l => .tup (.str "fun" :: .str x.str :: l)
  | .rc h x _, l => .tup (.str "rec" :: .str h.str :: .str x.str :: l)
  | .ask o _, l => .tup (.str "ask" :: .str o.str :: l)
  | e, _ => e.d
def E.hd : E → Str
  | .num _ => "num" | .unit => "unit" | .name _ => "name" | .call _ _ => "call" | .fn _ _ => "fun" | .rc _ _ _ => "rec" | .lt _ _ _ => "let"
  | .ite _ _ _ => "if" | .pair _ _ => "pair" | .op _ _ _ => "op" | .print _ _ => "print" | .ask _ _ => "ask" | .quoted _ => "quoted"
theorem rep_hd {K : PySem.W.Frag} {H : Hp} {v : V} : ∀ {e : E}, Rep K H e.d v → ∃ a us, v = .ref a ∧ SqT K H a (.str e.hd :: us) := by
  intro e h
  cases e <;> (obtain ⟨a, _, rfl, ha, _, _, rfl, rfl, _⟩ := h; exact ⟨a, _, rfl, ha⟩)
theorem hd_name (e : E) (h : ∀ y, e ≠ .name y) : decide (V.str e.hd = V.str "name") = false := by
  cases e <;> first | exact absurd rfl (h _) | rfl
/-- the lists of the bound names -/
def nmV (l : List Nm) : List V := l.map fun x => V.str x.str
def NmL (H : Hp) : List (List Nm) → List V → Prop
  | [], vs => vs = []
  | ns :: r, vs => ∃ q t, vs = .ref q :: t ∧ H q = some (.lst (nmV ns)) ∧ NmL H r t
theorem NmL.same {H H' : Hp} (s : ∀ b o, H b = some o → H' b = some o) : ∀ {l : List (List Nm)} {vs : List V}, NmL H l vs → NmL H' l vs
  | [], _, h => h
  | _ :: _, _, ⟨q, t, e, h, r⟩ => ⟨q, t, e, s _ _ h, NmL.same s r⟩
theorem NmL.snoc {H : Hp} {ns : List Nm} {q : Addr} (hq : H q = some (.lst (nmV ns))) : ∀ {l : List (List Nm)} {vs : List V}, NmL H l vs → NmL H (l ++ [ns]) (vs ++ [.ref q])
  | [], _, h => by rw [show _ = _ from h]; exact ⟨q, [], rfl, hq, rfl⟩
  | _ :: _, _, ⟨q', t, e, h, r⟩ => by rw [e]; exact ⟨q', _, rfl, h, NmL.snoc hq r⟩
theorem NmL.len {H : Hp} : ∀ {l : List (List Nm)} {vs : List V}, NmL H l vs → vs.length = l.length
  | [], _, h => by rw [show _ = _ from h] <;> rfl
  | _ :: _, _, ⟨q', t, e, h, r⟩ => by rw [e, List.length_cons, List.length_cons, NmL.len r]
theorem NmL.get {H : Hp} : ∀ {l : List (List Nm)} {vs : List V} {i : Nat} {ns : List Nm}, NmL H l vs → l[i]? = some ns → ∃ q, vs[i]? = some (.ref q) ∧ H q = some (.lst (nmV ns))
  | [], _, _, _, _, e => by simp at e
  | _ :: _, _, 0, _, ⟨q, t, e, h, r⟩, e2 => by simp at e2; rw [e]; exact ⟨q, rfl, e2 ▸ h⟩
  | _ :: _, _, i + 1, _, ⟨q, t, e, h, r⟩, e2 => by
    obtain ⟨q', h1, h2⟩ := NmL.get (i := i) r (by simpa using e2)
    exact ⟨q', by rw [e]; simpa using h1, h2⟩
theorem inV_nm (x : Nm) : ∀ l : List Nm, inV (V.str x.str) (nmV l) = decide (x ∈ l)
  | [] => rfl
  | y :: l => by
    have ih := inV_nm x l
    have e : inV (V.str x.str) (nmV (y :: l)) = (eqV (V.str y.str) (V.str x.str) || inV (V.str x.str) (nmV l)) := rfl
    have e2 : eqV (V.str y.str) (V.str x.str) = decide (x = y) := by
      by_cases h : x = y
      · subst h
        show (x.str == x.str) = _
        simp
      · have h2 := Nm.str_ne (fun q => h q.symm)
        show (y.str == x.str) = _
        rw [decide_eq_false h]
        exact beq_eq_false_iff_ne.mpr h2
    rw [e, e2, ih]
    by_cases h : x = y <;> simp [h]
theorem flat_nm (l : List Nm) : (nmV l).all flatV = true := by
  unfold nmV
  rw [List.all_map]
  exact List.all_eq_true.mpr fun _ _ => rfl
/-- what the parts become -/
def E.subs (x : Nm) (d : D) (e : E) : List D := List.zipWith (fun (p : E) (b : List Nm) => if x ∈ b then p.d else (p.put x d).d) e.parts e.bnd
theorem E.subs_with (x : Nm) (d : D) (e : E) (h : ∀ y, e ≠ .name y) : e.with (e.subs x d) = (e.put x d).d := by
  cases e with
  | name y => exact absurd rfl (h y)
  | fn y f =>
    show D.tup [.str "fun", .str y.str, if x ∈ [y] then f.d else (f.put x d).d] = (if x = y then E.fn y f else .fn y (f.put x d)).d
    by_cases q : x = y <;> simp [q, E.d]
  | rc g y f =>
    show D.tup [.str "rec", .str g.str, .str y.str, if x ∈ [g, y] then f.d else (f.put x d).d] = (if x = g ∨ x = y then E.rc g y f else .rc g y (f.put x d)).d
    by_cases q : x = g ∨ x = y <;> simp [q, E.d]
  | lt y f g =>
    show D.tup [.str "let", .str y.str, if x ∈ ([] : List Nm) then f.d else (f.put x d).d, if x ∈ [y] then g.d else (g.put x d).d] = (E.lt y (f.put x d) (if x = y then g else g.put x d)).d
    by_cases q : x = y <;> simp [q, E.d]
  | _ => simp [E.with, E.put, E.d, E.subs, E.parts, E.bnd]
theorem E.bnd_len (e : E) : e.bnd.length = e.parts.length := by cases e <;> rfl
theorem E.parts_few (e : E) : e.parts.length ≤ 3 := by cases e <;> simp [E.parts]
theorem E.part_dep {e p : E} {i : Nat} (h : e.parts[i]? = some p) : p.dep < e.dep := by
  cases e <;> simp only [E.parts] at h <;> (rcases i with _ | _ | _ | i <;> simp at h <;> subst h <;> simp [E.dep] <;> omega)
theorem len_1 {α : Type} {l : List α} (h : l.length = 1) : ∃ a, l = [a] := by
  match l, h with
  | [a], _ => exact ⟨a, rfl⟩
theorem len_2 {α : Type} {l : List α} (h : l.length = 2) : ∃ a b, l = [a, b] := by
  match l, h with
  | [a, b], _ => exact ⟨a, b, rfl⟩
theorem len_3 {α : Type} {l : List α} (h : l.length = 3) : ∃ a b c, l = [a, b, c] := by
  match l, h with
  | [a, b, c], _ => exact ⟨a, b, c, rfl⟩
theorem NmL.nil {H : Hp} : NmL H [] [] := rfl
theorem NmL.cons {H : Hp} {ns : List Nm} {l : List (List Nm)} {q : Addr} {t : List V} (h : H q = some (.lst (nmV ns))) (r : NmL H l t) : NmL H (ns :: l) (.ref q :: t) := ⟨q, t, rfl, h, r⟩
end K42
set_option maxRecDepth 100000
set_option maxHeartbeats 4000000

namespace PySem
open PySem.AutoSeq1 in
set_option maxRecDepth 8000 in
theorem extend_tup (l : Addr) (items : Array Value) (n : Nat) (b : Addr) (items2 : Array Value) (n2 : Nat) (dd : Option Addr) (sl : Array (Option Value)) (hs0 : ¬(!items.isEmpty && Builtin.List.listTooLong (items.size + items2.size)) = true) (hs1 : items.size ≤ sizeLine) (hs2 : items.size + items2.size ≤ sizeLine + 1) :
    Meets (Builtin.«list.extend» ⟨[.ref l, .ref b], []⟩) (fun _ R s => s.heap.get? l = some { cls := .type "list", dict := none, data := .seq items n, slots := #[] } ∧ s.heap.get? b = some { cls := .type "tuple", dict := dd, data := .seq items2 n2, slots := sl } ∧ R (.ok (.ret Value.none)) { s with heap := s.heap.update l (Obj.mapSeq fun x => x ++ items2), toks := s.toks }) :=
  .of_wp fun prog w A R s h => by
    obtain ⟨hp, g, d, tk, os⟩ := s
    obtain ⟨hl, hb, h⟩ := h
    have f1 := idx_int
    have f2 := sub_tuple_tuple
    have f3 := sub_list_list
    have f4 := sub_tuple_list
    have f5 := sub_list_tuple
    have hz' : (items ++ items2).size ≤ sizeLine + 1 := by
      rw [Array.size_append]
      exact hs2
    wp_walk using (wpAny_updateSeq hl rfl (hz := hs1) (_hz' := hz')), wpAny_loadPart' hl, wpAny_loadPart' hb
    exact ⟨_, rfl, h⟩
end PySem
namespace K42
open PySem PySem.Spec PyProof.Rows L2

/-! ### rules by values, joined -/
def rIx2 (K : PySem.W.Frag) : R2 := fun x y H Q => rIxT K x y H Q ∨ rIxL K x y H Q
def rSl2 (K : PySem.W.Frag) : V → Option Int → Option Int → Hp → VK → Prop := fun x lo hi H Q => rSlA K x lo hi H Q ∨ rSlL K x lo hi H Q
def rStrCat : R2 := fun x y H Q => ∃ i j, x = .str i ∧ y = .str j ∧ i.length + j.length ≤ sizeLine ∧ Q (.str (i ++ j)) H
def rPlus (K : PySem.W.Frag) : R2 := fun x y H Q => rI0 (fun i j => .int (i + j)) x y H Q ∨ (rCatT K x y H Q ∨ (rCat x y H Q ∨ rStrCat x y H Q))
def rLen2 (K : PySem.W.Frag) : List V → Hp → VK → Prop := fun xs H Q => ∃ p ys, xs = [.ref p] ∧ (SqL K H p ys ∨ SqT K H p ys) ∧ Q (.int ys.length) H
def rListOf (K : PySem.W.Frag) : List V → Hp → VK → Prop := fun xs H Q => ∃ p ys, xs = [.ref p] ∧ (SqL K H p ys ∨ SqT K H p ys) ∧ ∀ l, H l = none → Q (.ref l) (upd H l (.lst ys))
def rTupOf (K : PySem.W.Frag) : List V → Hp → VK → Prop := fun xs H Q => ∃ p ys, xs = [.ref p] ∧ ((SqL K H p ys ∧ ∀ l, H l = none → Q (.ref l) (upd H l (.tup ys))) ∨ (SqT K H p ys ∧ Q (.ref p) H))
def rAbs : List V → Hp → VK → Prop := fun xs H Q => ∃ i, xs = [.int i] ∧ Q (.int (if i < 0 then -i else i)) H
def rMax2 : List V → Hp → VK → Prop := fun xs H Q => ∃ i j, xs = [.int i, .int j] ∧ Q (.int (if j > i then j else i)) H
def rInt1 : List V → Hp → VK → Prop := fun xs H Q => (∃ i, xs = [.int i] ∧ Q (.int i) H) ∨ ∃ k, xs = [.bl k] ∧ Q (.int (if k then 1 else 0)) H
def rIsN : R2 := fun x y H Q => y = .non ∧ Q (.bl (decide (x = .non))) H
def rNotN : R2 := fun x y H Q => y = .non ∧ Q (.bl (!decide (x = .non))) H
def rExtT (K : PySem.W.Frag) : V → List V → Hp → VK → Prop := fun x vs H Q => ∃ l b xs zs, x = .ref l ∧ vs = [.ref b] ∧ H l = some (.lst xs) ∧ SqT K H b zs ∧ xs.length + zs.length ≤ sizeLine ∧ Q .non (upd H l (.lst (xs ++ zs)))
def tTru (K : PySem.W.Frag) (ta : TE) : TT := fun σ H Q => ta σ H fun x H' => ∃ k, TruV K x H' k ∧ Q k H'
def tGet (C : Addr) (f : Str) (ta : TE) : TE := fun σ H Q => ta σ H fun x H1 => ∃ a dx fs v, x = .ref a ∧ H1 a = some (.ins C dx fs) ∧ fs.lookup f = some v ∧ Q v H1
def sSet (C : Addr) (f : Str) (ta tv : TE) : TS := fun D σ H => tv σ H fun y H1 => ta σ H1 fun x H2 => ∃ a dx fs, x = .ref a ∧ H2 a = some (.ins C dx fs) ∧ fs.length < 1000 ∧ D.nx σ (upd H2 a (.ins C dx (putF f y fs)))
def sAug (C : Addr) (f : Str) (g : Int → Int → Int) (ta tv : TE) : TS := fun D σ H => ta σ H fun x H1 => ∃ a dx fs i, x = .ref a ∧ H1 a = some (.ins C dx fs) ∧ fs.lookup f = some (.int i) ∧
  tv σ H1 fun y H2 => ∃ j dx' fs', y = .int j ∧ H2 a = some (.ins C dx' fs') ∧ fs'.length < 1000 ∧ D.nx σ (upd H2 a (.ins C dx' (putF f (.int (g i j)) fs')))

section
variable {X : Cx} {e value o a b : Expr} {f : Str} {pos pos' tpos : Pos} {ta tb tv te : TE} {C : Addr}
theorem ix_2 : IxR X (rIx2 X.K) := IxR.or ix_tup ix_list
theorem sl_2 : SlR X (rSl2 X.K) := SlR.or sl_tupA sl_list
theorem op_plus : OpR X (binaryOp .Add) (rPlus X.K) := OpR.or op_add (OpR.or op_catT (OpR.or op_cat op_add_str))
theorem call_len2 : CallR X (.builtin "len") (rLen2 X.K) := call_len_seq
theorem call_listOf : CallR X (.type "list") (rListOf X.K) := call_list_of
theorem call_tupOf : CallR X (.type "tuple") (rTupOf X.K) := call_tuple_of
theorem call_abs1 : CallR X (.builtin "abs") rAbs := call_abs
theorem call_maxI (hc : X.calm = true) : CallR X (.builtin "max") rMax2 := call_max2 hc
theorem call_int : CallR X (.type "int") rInt1 := call_int1
theorem op_isNn : OpR X (compareOp .Is) rIsN := op_isN
theorem op_notNn : OpR X (compareOp .IsNot) rNotN := op_notN
theorem pt_tru (ha : PE X a ta) (he : ∀ whole, isTrue a X.env whole = (do let v ← whole; standAt a.pos; holding [v] (truthy v)) := by intro _; rfl) : PT X a (tTru X.K ta) := pt_truth ha he
theorem mt_extT : MtM X "list.extend" (rExtT X.K) := by
  intro pins s σ H x vs v us Q I rx rv h
  obtain ⟨l, b, xs, zs, rfl, rfl, hH, hB, hz, q⟩ := h
  cases rx
  obtain ⟨u, rfl, ru⟩ := rv.one
  cases ru
  obtain ⟨z, its, n, r, hl, e⟩ := I.lstM hH
  obtain ⟨its2, r2, ⟨ob, hb, hcls, n2, hdat⟩, hl2⟩ := I.tuple hB
  have e1 : its.length = xs.length := r.length.symm
  have e2 : its2.length = zs.length := r2.length.symm
  have hsz : its.toArray.size + its2.toArray.size ≤ sizeLine := by rw [List.size_toArray, List.size_toArray]; omega
  have hlong : ¬ (!its.toArray.isEmpty && Builtin.List.listTooLong (its.toArray.size + its2.toArray.size)) = true := by
    rw [notLongL hsz, Bool.and_false]
    exact Bool.false_ne_true
  obtain ⟨oc, od, odt, osl⟩ := ob
  have hcls' : oc = .type "tuple" := hcls
  have hdat' : odt = .seq its2.toArray n2 := hdat
  subst hcls' hdat'
  refine call_meets F.slot_list_extend ⟨_, e, rfl⟩ F.entry_list_extend (F.args_list_extend_2 _ _)
    (extend_tup l its.toArray n b its2.toArray n2 od osl hlong (by rw [List.size_toArray]; omega) (by omega)) ⟨e, hb, ?_⟩
  refine ⟨.non, _, I.lset (its' := its ++ its2) hH e (by simp) (r.append r2) ?_, rfl, q⟩
  rw [List.length_append]
  omega
theorem pe_g (c : Cls X.K C) (n : NoAttr X.K C f) (he : PE X e ta) (hb : attributeBase e f X.env (eval e X.env) = eval e X.env := by rfl) : PE X (.Attribute e f pos) (tGet C f ta) := by
  refine ⟨fun pins s σ H Q I h => ?_⟩
  refine attr_of hb (thn (he.run pins s σ H _ I h) fun u s1 ⟨x, H1, I1, rx, a, dx, fs, v, ex, ea, l, q⟩ => ?_)
  subst ex
  obtain rfl : u = Value.ref a := rx
  exact getattr_ok I1 ea c n l fun u' s2 I2 ru => ⟨v, H1, I2, ru, q⟩
theorem ps_s (c : Cls X.K C) (n : NoAttr X.K C f) (ha : PE X o ta) (hv : PE X value tv) (hs : swapsWith value (some (.Attribute o f pos')) pos.line X.env = pure false := by rfl) : PS X (.Assign [.Attribute o f pos'] value pos) (sSet C f ta tv) := by
  refine ⟨fun pins s σ H D I h => ?_⟩
  refine plainObj_wpAny_Assign_Attribute (thn (hv.run pins s σ H _ I h) fun u s1 ⟨y, H1, I1, ry, q⟩ => thn (ha.run pins s1 σ H1 _ I1 q) fun ov s2 ⟨x, H2, I2, rx, a, dx, fs, ex, ea, l, q2⟩ => ?_) hs
  subst ex
  obtain rfl : ov = Value.ref a := rx
  exact setattr_ok I2 ea c n l ry fun s3 I3 => ⟨σ, _, I3, q2⟩
theorem ps_a {op : Operator} {g : Int → Int → Int} (c : Cls X.K C) (n : NoAttr X.K C f) (hop : InOp X op (fun x y H Q => ∃ i j, x = .int i ∧ y = .int j ∧ Q (.int (g i j)) H)) (ha : PE X o ta) (hv : PE X value tv) : PS X (.AugAssign (.Attribute o f tpos) op value pos) (sAug C f g ta tv) := by
  refine ⟨fun pins s σ H D I h => ?_⟩
  refine wpAny_AugAssign_AttributeAny (thn (ha.run pins s σ H _ I h) fun ov s1 ⟨x, H1, I1, rx, a, dx, fs, i, ex, ea, l, q⟩ => ?_)
  subst ex
  obtain rfl : ov = Value.ref a := rx
  refine getattr_ok I1 ea c n l fun u s2 I2 ru => thn (hv.run pins s2 σ H1 _ I2 q) fun w3 s3 ⟨y, H2, I3, ry, j, dx', fs', ey, ea', l', q3⟩ => thn (hop pins s3 σ H2 (.int i) y u w3 (fun z H3 => z = .int (g i j) ∧ H3 = H2) I3 ru ry ⟨i, j, rfl, ey, rfl, rfl⟩) fun w4 s4 ⟨z, H3, I4, rz, e1, e2⟩ => ?_
  subst e2
  rw [e1] at rz
  exact setattr_ok I4 ea' c n l' rz fun s5 I5 => ⟨σ, _, I5, q3⟩
theorem in_addI : InOp X .Add (fun x y H Q => ∃ i j, x = .int i ∧ y = .int j ∧ Q (.int (i + j)) H) := in_add
theorem in_subI : InOp X .Sub (fun x y H Q => ∃ i j, x = .int i ∧ y = .int j ∧ Q (.int (i - j)) H) := in_sub
end

/-! ### the readings' steps -/
section
variable {K : PySem.W.Frag} {σ : L2.St} {H : Hp} {Q : VK} {QB : Bool → Hp → Prop} {QA : List V → Hp → Prop} {QO : Option Int → Hp → Prop} {D : Ends} {t u : TS} {c c2 : TT} {ta tb te tv : TE} {tas : TA} {i : Nat} {v x y : V} {a p l C dx : Addr} {fs : List (Str × V)} {f m : Str}
theorem w_seq (h : t { D with nx := u D } σ H) : tSeq t u D σ H := h
theorem w_if (h : c σ H fun b H1 => if b = true then t D σ H1 else u D σ H1) : tIfS c t u D σ H := h
theorem w_ret (h : te σ H D.rt) : tRet te D σ H := h
theorem w_retn (h : D.rt .non H) : tRetN D σ H := h
theorem w_asg (h : te σ H fun x H1 => D.nx (σ.set i (some x)) H1) : tAsg te (gName i) D σ H := h
theorem w_drop (h : te σ H fun _ H1 => D.nx σ H1) : tDrop te D σ H := h
theorem w_next (h : D.nx σ H) : tNext D σ H := h
theorem w_var (h : σ[i]? = some (some v)) (k : Q v H) : tVar i σ H Q := ⟨v, h, k⟩
theorem w_c (k : Q v H) : tC v σ H Q := k
theorem w_op {r : R2} (h : ta σ H fun x H1 => tb σ H1 fun y H2 => r x y H2 Q) : tOp r ta tb σ H Q := h
theorem w_test (h : te σ H fun x H' => ∃ k, x = .bl k ∧ QB k H') : tTest te σ H QB := h
theorem w_bl {b : Bool} {P : Bool → Prop} (h : P b) : ∃ k, V.bl b = .bl k ∧ P k := ⟨b, rfl, h⟩
theorem w_B (h : te σ H fun x H' => ∃ k, x = .bl k ∧ QB k H') : tB te σ H QB := h
theorem w_tru (h : te σ H fun x H' => ∃ k, TruV K x H' k ∧ QB k H') : tTru K te σ H QB := h
theorem w_and (h : c σ H fun b H1 => if b = true then c2 σ H1 QB else QB false H1) : tAnd c c2 σ H QB := h
theorem w_or (h : c σ H fun b H1 => if b = true then QB true H1 else c2 σ H1 QB) : tOr c c2 σ H QB := h
theorem w_not (h : c σ H fun b H1 => QB (!b) H1) : tNot c σ H QB := h
theorem w_andV (h : ta σ H fun x H1 => ∃ c, x = .bl c ∧ if c = true then tb σ H1 Q else Q (.bl false) H1) : tAndV ta tb σ H Q := h
theorem w_ifE (h : c σ H fun b H1 => if b = true then ta σ H1 Q else tb σ H1 Q) : tIf c ta tb σ H Q := h
theorem w_tup (h : tas σ H fun xs H1 => xs.length ≤ sizeLine ∧ ∀ p, H1 p = none → Q (.ref p) (upd H1 p (.tup xs))) : tTup tas σ H Q := h
theorem w_lst (h : tas σ H fun xs H1 => xs.length ≤ sizeLine ∧ ∀ p, H1 p = none → Q (.ref p) (upd H1 p (.lst xs))) : tLst tas σ H Q := h
theorem w_nil (h : QA [] H) : tNil σ H QA := h
theorem w_cons (h : ta σ H fun x H1 => tas σ H1 fun xs H2 => QA (x :: xs) H2) : tCons ta tas σ H QA := h
theorem ble_le {a b : Nat} (h : Nat.ble a b = true) : a ≤ b := Nat.le_of_ble_eq_true h
theorem w_few {xs : List V} {P : Prop} (h : Nat.ble xs.length 1000 = true) (k : P) : xs.length ≤ sizeLine ∧ P := ⟨Nat.le_trans (ble_le h) (by decide), k⟩
theorem w_cb {r : List V → Hp → VK → Prop} (h : tas σ H fun vs H1 => r vs H1 Q) : tCB r tas σ H Q := h
theorem w_sl {r : V → Option Int → Option Int → Hp → VK → Prop} {tl th : TO} (h : te σ H fun x H1 => tl σ H1 fun l H2 => th σ H2 fun u H3 => r x l u H3 Q) : tSl r te tl th σ H Q := h
theorem w_nopart (h : QO none H) : tNoPart σ H QO := h
theorem w_part (h : te σ H fun x H1 => ∃ i, x = .int i ∧ QO (some i) H1) : tPart te σ H QO := h
theorem w_int {P : Int → Prop} {j : Int} (h : P j) : ∃ i, V.int j = .int i ∧ P i := ⟨j, rfl, h⟩
theorem w_bm {r : V → List V → Hp → VK → Prop} {T : String} (h : te σ H fun x H1 => tyV K T x H1 ∧ tas σ H1 fun xs H2 => r x xs H2 Q) : tBM K T r te tas σ H Q := h
theorem w_bm0 {r : V → List V → Hp → VK → Prop} {T : String} (h : te σ H fun x H1 => tyV K T x H1 ∧ r x [] H1 Q) : tBM0 K T r te σ H Q := h
theorem w_tyL {P : Prop} {xs : List V} (h : SqL K H p xs) (k : P) : tyV K "list" (.ref p) H ∧ P := ⟨.inl ⟨rfl, _, h⟩, k⟩
theorem w_get (h : ta σ H fun x H1 => ∃ a dx fs v, x = .ref a ∧ H1 a = some (.ins C dx fs) ∧ fs.lookup f = some v ∧ Q v H1) : tGet C f ta σ H Q := h
theorem w_get1 {P : V → Prop} (h : H a = some (.ins C dx fs)) (hl : fs.lookup f = some v) (k : P v) : ∃ b dx fs w, V.ref a = .ref b ∧ H b = some (.ins C dx fs) ∧ fs.lookup f = some w ∧ P w := ⟨a, dx, fs, v, rfl, h, hl, k⟩
theorem w_set (h : tv σ H fun y H1 => ta σ H1 fun x H2 => ∃ a dx fs, x = .ref a ∧ H2 a = some (.ins C dx fs) ∧ fs.length < 1000 ∧ D.nx σ (upd H2 a (.ins C dx (putF f y fs)))) : sSet C f ta tv D σ H := h
theorem w_set1 {P : Hp → Prop} (h : H a = some (.ins C dx fs)) (hl : Nat.ble fs.length 900 = true) (k : P (upd H a (.ins C dx (putF f y fs)))) : ∃ b dx fs, V.ref a = .ref b ∧ H b = some (.ins C dx fs) ∧ fs.length < 1000 ∧ P (upd H b (.ins C dx (putF f y fs))) := ⟨a, dx, fs, rfl, h, Nat.lt_of_le_of_lt (ble_le hl) (by decide), k⟩
theorem w_aug {g : Int → Int → Int} (h : ta σ H fun x H1 => ∃ a dx fs i, x = .ref a ∧ H1 a = some (.ins C dx fs) ∧ fs.lookup f = some (.int i) ∧
  tv σ H1 fun y H2 => ∃ j dx' fs', y = .int j ∧ H2 a = some (.ins C dx' fs') ∧ fs'.length < 1000 ∧ D.nx σ (upd H2 a (.ins C dx' (putF f (.int (g i j)) fs')))) : sAug C f g ta tv D σ H := h
theorem w_aug1 {P : Addr → Int → Prop} {j : Int} (h : H a = some (.ins C dx fs)) (hl : fs.lookup f = some (.int j)) (k : P a j) : ∃ b dx fs i, V.ref a = .ref b ∧ H b = some (.ins C dx fs) ∧ fs.lookup f = some (.int i) ∧ P b i := ⟨a, dx, fs, j, rfl, h, hl, k⟩
theorem w_aug2 {P : Int → Addr → List (Str × V) → Prop} {j : Int} (h : H a = some (.ins C dx fs)) (hl : Nat.ble fs.length 900 = true) (k : P j dx fs) : ∃ i dx' fs', V.int j = .int i ∧ H a = some (.ins C dx' fs') ∧ fs'.length < 1000 ∧ P i dx' fs' := ⟨j, dx, fs, rfl, h, Nat.lt_of_le_of_lt (ble_le hl) (by decide), k⟩
theorem w_meth {sp : Sp} {dvs : List V} {E : XK} (h : te σ H fun x H1 => ∃ a dx fs, x = .ref a ∧ H1 a = some (.ins C dx fs) ∧ fs.lookup m = none ∧ tas σ H1 fun vs H2 => sp (x :: (vs ++ dvs)) H2 Q E) : tMeth C m sp dvs E te tas σ H Q := h
theorem w_meth1 {P : Prop} (h : H a = some (.ins C dx fs)) (hl : fs.lookup m = none) (k : P) : ∃ b dx fs, V.ref a = .ref b ∧ H b = some (.ins C dx fs) ∧ fs.lookup m = none ∧ P := ⟨a, dx, fs, rfl, h, hl, k⟩
theorem w_call {sp : Sp} {dvs : List V} {E : XK} (h : tas σ H fun vs H1 => sp (vs ++ dvs) H1 Q E) : tCall sp dvs E tas σ H Q := h
-- by values
theorem w_eq (h : scal x y = true) (k : Q (.bl (decide (x = y))) H) : rEq x y H Q := ⟨h, k⟩
theorem w_ne (h : scal x y = true) (k : Q (.bl (!decide (x = y))) H) : rNe x y H Q := ⟨h, k⟩
theorem w_isn (k : Q (.bl (decide (x = .non))) H) : rIsN x .non H Q := ⟨rfl, k⟩
theorem w_notn (k : Q (.bl (!decide (x = .non))) H) : rNotN x .non H Q := ⟨rfl, k⟩
theorem w_ixT {xs : List V} {j : Int} (h : SqT K H p xs) (ha : atI xs j = some v) (k : Q v H) : rIx2 K (.ref p) (.int j) H Q := .inl ⟨p, xs, j, v, rfl, rfl, h, ha, k⟩
theorem w_ixL {xs : List V} {j : Int} (h : SqL K H p xs) (ha : atI xs j = some v) (k : Q v H) : rIx2 K (.ref p) (.int j) H Q := .inr ⟨p, xs, j, v, rfl, rfl, h, ha, k⟩
theorem w_slT {xs ys : List V} {lo hi : Option Int} (h : SqT K H p xs) (hn : decide (HT.sIx xs.length 0 lo = 0 ∧ HT.sIx xs.length xs.length hi = xs.length) = false) (hc : cutV xs lo hi = ys) (k : ∀ q, H q = none → Q (.ref q) (upd H q (.tup ys))) : rSl2 K (.ref p) lo hi H Q :=
  .inl ⟨p, xs, rfl, h, fun e => absurd e (of_decide_eq_false hn), fun _ => by rw [hc]; exact k⟩
theorem w_slL {xs ys : List V} {lo hi : Option Int} (h : SqL K H p xs) (hc : cutV xs lo hi = ys) (k : ∀ q, H q = none → Q (.ref q) (upd H q (.lst ys))) : rSl2 K (.ref p) lo hi H Q :=
  .inr ⟨p, xs, rfl, h, by rw [hc]; exact k⟩
theorem w_plusI {i j : Int} (k : Q (.int (i + j)) H) : rPlus K (.int i) (.int j) H Q := .inl ⟨i, j, rfl, rfl, k⟩
theorem w_plusT {q : Addr} {xs ys : List V} (h1 : SqT K H p xs) (h2 : SqT K H q (y :: ys)) (hx : xs ≠ []) (hz : Nat.ble (xs.length + (y :: ys).length) 1000 = true) (k : ∀ r, H r = none → Q (.ref r) (upd H r (.tup (xs ++ y :: ys)))) : rPlus K (.ref p) (.ref q) H Q :=
  .inr (.inl ⟨p, q, xs, y :: ys, rfl, rfl, h1, h2, hx, Nat.le_trans (ble_le hz) (by decide), (fun e => by cases e), fun _ => k⟩)
theorem w_plusT0 {q : Addr} {xs : List V} (h1 : SqT K H p xs) (h2 : SqT K H q []) (hx : xs ≠ []) (hz : Nat.ble xs.length 1000 = true) (k : Q (.ref p) H) : rPlus K (.ref p) (.ref q) H Q :=
  .inr (.inl ⟨p, q, xs, [], rfl, rfl, h1, h2, hx, Nat.le_trans (ble_le hz) (by decide), fun _ => k, fun e => absurd rfl e⟩)
theorem w_plusL {q : Addr} {xs ys : List V} (h1 : H p = some (.lst xs)) (h2 : H q = some (.lst ys)) (hz : xs.length + ys.length ≤ 1000) (k : ∀ r, H r = none → Q (.ref r) (upd H r (.lst (xs ++ ys)))) : rPlus K (.ref p) (.ref q) H Q :=
  .inr (.inr (.inl ⟨p, q, xs, ys, rfl, rfl, h1, h2, Nat.le_trans hz (by decide), k⟩))
theorem w_plusS {i j : Str} (hz : Nat.ble (i.length + j.length) 1000 = true) (k : Q (.str (i ++ j)) H) : rPlus K (.str i) (.str j) H Q := .inr (.inr (.inr ⟨i, j, rfl, rfl, Nat.le_trans (ble_le hz) (by decide), k⟩))
theorem w_I0 {g : Int → Int → V} {i j : Int} (k : Q (g i j) H) : rI0 g (.int i) (.int j) H Q := ⟨i, j, rfl, rfl, k⟩
theorem w_I {cc : Int → Int → Prop} {g : Int → Int → V} {i j : Int} (h : cc i j) (k : Q (g i j) H) : rI cc g (.int i) (.int j) H Q := ⟨i, j, rfl, rfl, h, k⟩
theorem w_inT {xs : List V} {n : Bool} (h : SqT K H p xs) (h1 : flatV x = true) (h2 : xs.all flatV = true) (k : Q (.bl (if n then !inV x xs else inV x xs)) H) : rIn K n x (.ref p) H Q := ⟨p, xs, rfl, .inr h, h1, h2, k⟩
theorem w_inL {xs : List V} {n : Bool} (h : SqL K H p xs) (h1 : flatV x = true) (h2 : xs.all flatV = true) (k : Q (.bl (if n then !inV x xs else inV x xs)) H) : rIn K n x (.ref p) H Q := ⟨p, xs, rfl, .inl h, h1, h2, k⟩
theorem w_lenT {xs : List V} (h : SqT K H p xs) (k : Q (.int xs.length) H) : rLen2 K [.ref p] H Q := ⟨p, xs, rfl, .inr h, k⟩
theorem w_lenL {xs : List V} (h : SqL K H p xs) (k : Q (.int xs.length) H) : rLen2 K [.ref p] H Q := ⟨p, xs, rfl, .inl h, k⟩
theorem w_listT {xs : List V} (h : SqT K H p xs) (k : ∀ q, H q = none → Q (.ref q) (upd H q (.lst xs))) : rListOf K [.ref p] H Q := ⟨p, xs, rfl, .inr h, k⟩
theorem w_listL {xs : List V} (h : SqL K H p xs) (k : ∀ q, H q = none → Q (.ref q) (upd H q (.lst xs))) : rListOf K [.ref p] H Q := ⟨p, xs, rfl, .inl h, k⟩
theorem w_tupL {xs : List V} (h : SqL K H p xs) (k : ∀ q, H q = none → Q (.ref q) (upd H q (.tup xs))) : rTupOf K [.ref p] H Q := ⟨p, xs, rfl, .inl ⟨h, k⟩⟩
theorem w_tupT {xs : List V} (h : SqT K H p xs) (k : Q (.ref p) H) : rTupOf K [.ref p] H Q := ⟨p, xs, rfl, .inr ⟨h, k⟩⟩
theorem w_abs {j : Int} (k : Q (.int (if j < 0 then -j else j)) H) : rAbs [.int j] H Q := ⟨j, rfl, k⟩
theorem w_max {i j : Int} (k : Q (.int (if j > i then j else i)) H) : rMax2 [.int i, .int j] H Q := ⟨i, j, rfl, k⟩
theorem w_intI {j : Int} (k : Q (.int j) H) : rInt1 [.int j] H Q := .inl ⟨j, rfl, k⟩
theorem w_intB {b : Bool} (k : Q (.int (if b then 1 else 0)) H) : rInt1 [.bl b] H Q := .inr ⟨b, rfl, k⟩
theorem w_app {xs : List V} (h : H l = some (.lst xs)) (hz : xs.length ≤ 100000) (k : Q .non (upd H l (.lst (xs ++ [y])))) : rAppend (.ref l) [y] H Q := ⟨l, xs, y, rfl, rfl, h, Nat.lt_of_le_of_lt hz (by decide), k⟩
theorem w_appR {xs : List V} (h : H l = some (.lst xs.reverse)) (hz : xs.length ≤ 100000) (k : Q .non (upd H l (.lst (y :: xs).reverse))) : rAppend (.ref l) [y] H Q :=
  w_app h (by rw [List.length_reverse]; exact hz) (by rw [List.reverse_cons] at k; exact k)
theorem w_popR {xs : List V} (h : H l = some (.lst (y :: xs).reverse)) (k : Q y (upd H l (.lst xs.reverse))) : rPop (.ref l) [] H Q := by
  rw [List.reverse_cons] at h
  exact ⟨l, _, y, rfl, rfl, h, by simp, by rw [List.dropLast_concat]; exact k⟩
theorem w_ext {xs zs : List V} (h : H l = some (.lst xs)) (h2 : SqT K H p zs) (hz : xs.length + zs.length ≤ 100000) (k : Q .non (upd H l (.lst (xs ++ zs)))) : rExtT K (.ref l) [.ref p] H Q := ⟨l, p, xs, zs, rfl, rfl, h, h2, Nat.le_trans hz (by decide), k⟩
theorem w_truB {b : Bool} {P : Bool → Prop} (k : P b) : ∃ k, TruV K (.bl b) H k ∧ P k := ⟨b, rfl, k⟩
theorem w_truL {xs : List V} {P : Bool → Prop} (h : SqL K H p xs) (k : P (!xs.isEmpty)) : ∃ k, TruV K (.ref p) H k ∧ P k := ⟨_, .inl ⟨xs, h, rfl⟩, k⟩
theorem w_truR {xs : List V} {P : Bool → Prop} (h : SqL K H p xs.reverse) (k : P (!xs.isEmpty)) : ∃ k, TruV K (.ref p) H k ∧ P k := ⟨_, .inl ⟨xs.reverse, h, rfl⟩, by rw [List.isEmpty_reverse]; exact k⟩
theorem w_make {sp : Sp} {dvs : List V} {E : XK} (h : tas σ H fun vs H1 => ∀ x dx, H1 x = none → H1 dx = none → dx ≠ x → sp (.ref x :: (vs ++ dvs)) (upd (upd H1 dx (.own x)) x (.ins C dx [])) (fun v H2 => v = .non ∧ Q (.ref x) H2) E) : tMake C sp dvs E tas σ H Q := h
theorem w_orV (h : ta σ H fun x H1 => ∃ c, x = .bl c ∧ if c = true then Q (.bl true) H1 else tb σ H1 Q) : tOrV ta tb σ H Q := h
theorem w_notV (h : ta σ H fun x H1 => ∃ c, x = .bl c ∧ Q (.bl (!c)) H1) : tNotV ta σ H Q := h
theorem w_setL {Q : Hp → Prop} {xs : List V} {j : Nat} {jj : Int} (h : H p = some (.lst xs)) (hi : ixN xs.length jj = some j) (k : Q (upd H p (.lst (xs.set j y)))) : rSetL (.ref p) (.int jj) y H Q := ⟨p, xs, jj, j, rfl, rfl, h, hi, k⟩
theorem w_sub {TS' : TSet} {to ti : TE} (h : te σ H fun x H1 => to σ H1 fun o H2 => ti σ H2 fun j H3 => TS' o j x H3 fun H4 => D.nx σ H4) : tAsg te (gSub to ti TS') D σ H := h
theorem w_asgT {n : Nat} {gs : TGs} (h : te σ H fun x H1 => gTup K n gs x σ H1 D.nx) : tAsg te (gTup K n gs) D σ H := h
theorem w_gtup {n : Nat} {gs : TGs} {QS : L2.St → Hp → Prop} {xs : List V} (h : SqT K H p xs) (hn : xs.length = n) (k : gs xs σ H QS) : gTup K n gs (.ref p) σ H QS := ⟨p, xs, rfl, h, hn, k⟩
theorem w_gnil {QS : L2.St → Hp → Prop} (k : QS σ H) : gNil [] σ H QS := ⟨rfl, k⟩
theorem w_gcons {t : TG} {gs : TGs} {QS : L2.St → Hp → Prop} {xs : List V} (k : t x σ H fun σ' H' => gs xs σ' H' QS) : gCons t gs (x :: xs) σ H QS := ⟨x, xs, rfl, k⟩
theorem w_gname {QS : L2.St → Hp → Prop} (k : QS (σ.set i (some x)) H) : gName i x σ H QS := k
theorem w_un {r : V → Hp → VK → Prop} (h : ta σ H fun x H1 => r x H1 Q) : tUn r ta σ H Q := h
theorem w_rU {g : Int → V} {j : Int} (k : Q (g j) H) : rU g (.int j) H Q := ⟨j, rfl, k⟩
theorem atI_0 {a : V} {l : List V} : atI (a :: l) 0 = some a := atI_nat (j := 0) rfl
theorem cut_1 {a : V} {l : List V} : cutV (a :: l) (some 1) none = l := by
  unfold cutV
  show List.take ((a :: l).length - min 1 (a :: l).length) (List.drop (min 1 (a :: l).length) (a :: l)) = l
  have e : min 1 (a :: l).length = 1 := by rw [List.length_cons]; omega
  rw [e]
  simp
theorem cut_2 {a b : V} {l : List V} : cutV (a :: b :: l) (some 2) none = l := by
  unfold cutV
  show List.take ((a :: b :: l).length - min 2 (a :: b :: l).length) (List.drop (min 2 (a :: b :: l).length) (a :: b :: l)) = l
  have e : min 2 (a :: b :: l).length = 2 := by rw [List.length_cons, List.length_cons]; omega
  rw [e]
  simp
theorem cut_t2 {a b : V} {l : List V} : cutV (a :: b :: l) none (some 2) = [a, b] := by
  unfold cutV
  show List.take (min 2 (a :: b :: l).length - 0) (List.drop 0 (a :: b :: l)) = [a, b]
  have e : min 2 (a :: b :: l).length = 2 := by rw [List.length_cons, List.length_cons]; omega
  rw [e]
  simp
theorem cut_m3 {a b c : V} : cutV [a, b, c] none (some (-1)) = [a, b] := rfl
theorem cut_m4 {a b c d : V} : cutV [a, b, c, d] none (some (-1)) = [a, b, c] := rfl
theorem cut_to {l1 l2 : List V} {n : Nat} (h : l1.length = n) : cutV (l1 ++ l2) none (some (n : Int)) = l1 := by
  subst h
  unfold cutV
  show List.take (HT.sIx (l1 ++ l2).length (l1 ++ l2).length (some (l1.length : Int)) - 0) (List.drop 0 (l1 ++ l2)) = l1
  rw [HT.sIx_nat, List.length_append, show min l1.length (l1.length + l2.length) = l1.length by omega, Nat.sub_zero, List.drop_zero, List.take_left']
  rfl
theorem cut_from {l1 l2 : List V} {n : Nat} (h : l1.length = n) : cutV (l1 ++ l2) (some (n : Int)) none = l2 := by
  subst h
  unfold cutV
  rw [HT.sIx_nat, HT.sIx_none, List.length_append, show min l1.length (l1.length + l2.length) = l1.length by omega, List.drop_left', List.take_of_length_le]
  · omega
  · rfl
theorem w_for {wi : TI} {g : TG} {tb : TS} (h : wi σ H fun J H1 => ∃ W : Nat → Nat → L2.St → Hp → Prop, (∃ m, W 0 m σ H1) ∧ ∀ i m σ H, W i m σ H →
    (J.stop i H ∧ D.nx σ H) ∨ (J.go i H ∧ ∃ N : L2.St → Hp → Prop, (∀ σ' H', N σ' H' → ∃ m', m' < m ∧ W (i + 1) m' σ' H') ∧ ∀ x H', J.yld i H x H' → g x σ H' fun σ2 H2 => tb { D with nx := N, ct := N, bk := D.nx } σ2 H2)) : tFor wi g tb D σ H := h
theorem w_while {c : TT} {tb : TS} (h : ∃ W : Nat → L2.St → Hp → Prop, (∃ m, W m σ H) ∧ ∀ m σ H, W m σ H → c σ H fun b H1 => if b = true then ∃ N : L2.St → Hp → Prop, (∀ σ' H', N σ' H' → ∃ m', m' < m ∧ W m' σ' H') ∧ tb { D with nx := N, ct := N, bk := D.nx } σ H1 else D.nx σ H1) : tWhile c tb D σ H := h
theorem w_iList {R : It → Hp → Prop} (h : te σ H fun x H1 => ∃ a, x = .ref a ∧ (∃ xs, SqL K H1 a xs) ∧ R (Itl K a) H1) : iList K te σ H R := h
theorem w_iTup {R : It → Hp → Prop} (h : te σ H fun x H1 => ∃ a, x = .ref a ∧ (∃ xs, SqT K H1 a xs) ∧ R (Itt K a) H1) : iTup K te σ H R := h
theorem w_iZip {R : It → Hp → Prop} (h : tas σ H fun vs H1 => ∃ a b xs ys, vs = [.ref a, .ref b] ∧ SqL K H1 a xs ∧ SqL K H1 b ys ∧ R (Itz K a b) H1) : iZip K tas σ H R := h
theorem w_iRng1 {R : It → Hp → Prop} (h : tas σ H fun vs H1 => ∃ j : Int, vs = [.int j] ∧ -(2 ^ 62) ≤ j ∧ j < 2 ^ 62 ∧ R (Itr 0 j.toNat) H1) : iRng1 tas σ H R := h
theorem w_iRevR {tr : L2.St → Hp → (Int → Int → Hp → Prop) → Prop} {R : It → Hp → Prop} (h : tr σ H fun a b H1 => -(2 ^ 62) ≤ a ∧ a < 2 ^ 62 ∧ -(2 ^ 62) ≤ b ∧ b < 2 ^ 62 ∧ R (Itc (a + (((b - a).toNat : Nat) : Int) - 1) (-1) (b - a).toNat) H1) : iRevR tr σ H R := h
theorem w_rg1 {R : Int → Int → Hp → Prop} (h : ta σ H fun x H1 => ∃ n, x = .int n ∧ R 0 n H1) : tRg1 ta σ H R := h
theorem w_rg2 {R : Int → Int → Hp → Prop} (h : ta σ H fun x H1 => tb σ H1 fun y H2 => ∃ i j, x = .int i ∧ y = .int j ∧ R i j H2) : tRg2 ta tb σ H R := h
theorem w_rg2' {P : Int → Int → Prop} {i j : Int} (h : P i j) : ∃ i' j', V.int i = .int i' ∧ V.int j = .int j' ∧ P i' j' := ⟨i, j, rfl, rfl, h⟩
theorem ite_t {b : Bool} {A B : Prop} (h : b = true) (k : A) : if b = true then A else B := by rw [if_pos h]; exact k
theorem ite_f {b : Bool} {A B : Prop} (h : b = false) (k : B) : if b = true then A else B := by rw [if_neg (by rw [h]; exact Bool.false_ne_true)]; exact k
def kindO : HO → Nat
  | .lst _ => 0 | .tup _ => 1 | .dK _ => 2 | .ins .. => 3 | .own _ => 4 | .dT _ => 5 | .set _ _ => 6 | .xd _ => 7 | .met _ _ => 8 | .rng _ _ => 9 | .frz _ _ => 10 | .tbl _ => 11 | .ext _ => 12
theorem get_kind {u u' o : HO} (h : H a = some u) (m : H p = some u') (d : (kindO u == kindO u') = false) : upd H p o a = some u := get_ne h (ne_of h m fun e => by rw [e, beq_self_eq_true] at d; cases d)
theorem ne_fr {o : HO} (n : H p = none) (h : H a = some o) : a ≠ p := ne_of_none h n
theorem fr_ne {o : HO} (n : H p = none) (h : H a = some o) : p ≠ a := (ne_of_none h n).symm
theorem ne_kind {u u' : HO} (h : H a = some u) (m : H p = some u') (d : (kindO u == kindO u') = false) : a ≠ p := ne_of h m fun e => by rw [e, beq_self_eq_true] at d; cases d
theorem sqt_kind {u o : HO} {xs : List V} (h : SqT K H a xs) (m : H p = some u) (d : (kindO u == 1 || kindO u == 10) = false) : SqT K (upd H p o) a xs :=
  Le.mut Le.refl m (fun xs e => by rw [e] at d; cases d) (fun o xs e => by rw [e] at d; cases d) _ _ h
theorem le_kind {H0 : Hp} {u o : HO} (h : Le K H0 H) (m : H p = some u) (d : (kindO u == 1 || kindO u == 10) = false) : Le K H0 (upd H p o) :=
  Le.mut h m (fun xs e => by rw [e] at d; cases d) (fun o xs e => by rw [e] at d; cases d)
theorem sqt_le {H0 : Hp} {xs : List V} (le : Le K H0 H) (h : SqT K H0 a xs) : SqT K H a xs := le _ _ h
theorem sql_same {H0 : Hp} {xs : List V} (s : Same H0 H) (h : SqL K H0 a xs) : SqL K H a xs := s.seq h
theorem sql_new {o : HO} {xs : List V} (h : SqL K H a xs) (n : H p = none) : SqL K (upd H p o) a xs := (Same.new (Same.refl H) n).seq h
theorem Reps.nil : Reps K H [] [] := rfl
theorem Reps.cons {d : K42.D} {ds : List K42.D} {v : V} {vs : List V} (h : Rep K H d v) (t : Reps K H ds vs) : Reps K H (d :: ds) (v :: vs) := ⟨v, vs, rfl, h, t⟩
theorem Rep.mk {ds : List K42.D} {vs : List V} (h : SqT K H a vs) (t : Reps K H ds vs) : Rep K H (.tup ds) (.ref a) := ⟨a, vs, rfl, h, t⟩
end
theorem wipe1 {σ : L2.St} {i : Nat} {x : V} : wipe ((wipe σ [i]).set i (some x)) [i] = wipe σ [i] := by
  show ((σ.set i none).set i (some x)).set i none = σ.set i none
  rw [List.set_set, List.set_set]
/-- [[] for part in ..] -/
theorem lc_emp {K : PySem.W.Frag} {a Dl : Addr} {us : List V} {σ : L2.St} {j : Nat} {H1 : Hp} {Q : VK} (hs : SqL K H1 a us) (hn : us.length ≤ 1000) (hD : H1 Dl = none)
    (k : ∀ H2 ws, Same H1 H2 → H2 Dl = some (.lst ws) → NmL H2 (List.replicate us.length []) ws → (∀ q, V.ref q ∈ ws → H1 q = none) → Q (.ref Dl) H2) :
    ∃ W : Nat → Nat → Hp → Prop, (∃ m, W 0 m (upd H1 Dl (.lst []))) ∧ ∀ i m H, W i m H →
      ((Itl K a).stop i H ∧ Q (.ref Dl) H) ∨ ((Itl K a).go i H ∧ ∃ Nx : Hp → Prop, (∀ H', Nx H' → ∃ m', m' < m ∧ W (i + 1) m' H') ∧ ∀ x H', (Itl K a).yld i H x H' → gName j x (wipe σ [j]) H' fun σ2 H2 => wipe σ2 [j] = wipe σ [j] ∧ tYes σ2 H2 fun b H3 =>
        if b = true then tLst tNil σ2 H3 fun y H4 => ∃ acc, H4 Dl = some (.lst acc) ∧ acc.length < sizeLine ∧ Nx (upd H4 Dl (.lst (acc ++ [y]))) else Nx H3) := by
  refine lc_list (xs := us) (fun i H' => Same H1 H' ∧ ∃ ws, H' Dl = some (.lst ws) ∧ NmL H' (List.replicate i []) ws ∧ ws.length = i ∧ ∀ q, V.ref q ∈ ws → H1 q = none ∧ q ≠ Dl) ⟨Same.new (Same.refl _) hD, [], upd_same, rfl, rfl, fun _ h => nomatch h⟩ (fun i H' _ p => p.1.seq hs) (fun i x H' hi p => ?_) (fun H' p => ?_)
  · obtain ⟨s, ws, hw, hnm, hl, hne⟩ := p
    have hiu : i < us.length := (List.getElem?_eq_some_iff.mp hi).1
    refine ⟨wipe1, ?_⟩
    unfold tYes
    simp only [↓reduceIte]
    refine w_lst (w_nil (w_few rfl fun q hq => ?_))
    have nq : q ≠ Dl := (ne_of_none hw hq).symm
    refine ⟨ws, get_new hw hq, Nat.lt_of_le_of_lt (show ws.length ≤ 1000 by omega) (by decide), Same.mut (Same.new s hq) hD, ws ++ [.ref q], upd_same, ?_, by rw [List.length_append, hl]; rfl, fun v hv => ?_⟩
    · rw [List.replicate_succ']
      have s2 : ∀ b o, H' b = some o → b ≠ Dl → upd (upd H' q (.lst [])) Dl (.lst (ws ++ [.ref q])) b = some o := fun b o e n => get_ne (get_new e hq) n
      refine NmL.snoc (ns := []) (show _ = some (.lst []) from get_ne upd_same nq) ?_
      have : ∀ {l : List (List Nm)} {vs : List V}, NmL H' l vs → (∀ q, V.ref q ∈ vs → H1 q = none ∧ q ≠ Dl) → NmL (upd (upd H' q (.lst [])) Dl (.lst (ws ++ [.ref q]))) l vs := by
        intro l
        induction l with
        | nil => intro vs h _; exact h
        | cons ns r ih =>
          intro vs ⟨p, t, e, h, hr⟩ hne
          subst e
          exact ⟨p, t, rfl, s2 _ _ h (hne _ List.mem_cons_self).2, ih hr fun v hv => hne v (List.mem_cons_of_mem _ hv)⟩
      exact this hnm hne
    · rcases List.mem_append.mp hv with hv | hv
      · exact hne v hv
      · rw [V.ref.inj (List.mem_singleton.mp hv)]
        exact ⟨s.free hq, nq⟩
  · obtain ⟨s, ws, hw, hnm, hl, hne⟩ := p
    exact k H' ws s hw (hl ▸ hnm) fun q hq => (hne q hq).1
theorem w_lc {wi : TI} {g : TG} {tt : TT} {te : TE} {vs : List Nat} {σ : L2.St} {H : Hp} {Q : VK} (h : wi σ H fun J H1 => ∀ D, H1 D = none → ∃ W : Nat → Nat → Hp → Prop, (∃ m, W 0 m (upd H1 D (.lst []))) ∧ ∀ i m H, W i m H →
  (J.stop i H ∧ Q (.ref D) H) ∨ (J.go i H ∧ ∃ Nx : Hp → Prop, (∀ H', Nx H' → ∃ m', m' < m ∧ W (i + 1) m' H') ∧ ∀ x H', J.yld i H x H' → g x (wipe σ vs) H' fun σ2 H2 => wipe σ2 vs = wipe σ vs ∧ tt σ2 H2 fun b H3 =>
    if b = true then te σ2 H3 fun y H4 => ∃ acc, H4 D = some (.lst acc) ∧ acc.length < sizeLine ∧ Nx (upd H4 D (.lst (acc ++ [y]))) else Nx H3)) : tLc wi g tt te vs σ H Q := h
end K42
set_option maxRecDepth 100000
set_option maxHeartbeats 4000000
namespace K42
open PySem PySem.Spec PyProof.Rows L2
def top (i : Nat) : Stmt := PySem.Challenge.pw_askedfor_k42_whole_state.main.body.getD i (.Pass ⟨0, 0, 0, 0⟩)
abbrev s_parts : Stmt := top 2
abbrev s_with_parts : Stmt := top 3
abbrev s_bound_names : Stmt := top 4
abbrev s_put_in : Stmt := top 7
abbrev s_operated : Stmt := top 11
abbrev s_is_value : Stmt := top 12
abbrev s_shape : Stmt := top 13
abbrev s_quoted : Stmt := top 14
abbrev s_Run___init__ : Stmt := inClass (top 15) 0
abbrev s_Run_counted : Stmt := inClass (top 15) 1
abbrev s_Run_begin : Stmt := inClass (top 15) 2
abbrev s_Run_go_on : Stmt := inClass (top 15) 3
abbrev s_Run_call : Stmt := inClass (top 15) 5
abbrev s_Run_ask : Stmt := inClass (top 15) 6
abbrev s_Run_answer : Stmt := inClass (top 15) 7
abbrev s_run_plain : Stmt := top 16
abbrev s_looked_up : Stmt := top 20
abbrev s_calculated : Stmt := top 21
abbrev s_value_shape : Stmt := top 22
abbrev s_Machine___init__ : Stmt := inClass (top 23) 0
abbrev s_Machine_step : Stmt := inClass (top 23) 1
abbrev s_Machine_wait : Stmt := inClass (top 23) 2
abbrev s_Machine_add_piece : Stmt := inClass (top 23) 3
abbrev s_Machine_run : Stmt := inClass (top 23) 4
abbrev s_Machine_handled : Stmt := inClass (top 23) 5
abbrev s_Machine_begin : Stmt := inClass (top 23) 6
abbrev s_Machine_resume : Stmt := inClass (top 23) 7
abbrev s_Machine_call : Stmt := inClass (top 23) 8
abbrev s_Machine_ask : Stmt := inClass (top 23) 9
abbrev s_Machine_answer : Stmt := inClass (top 23) 10
abbrev s_run_counted : Stmt := top 24
abbrev s_run_machine : Stmt := top 25
abbrev s_Piece___init__ : Stmt := inClass (top 31) 0
abbrev s_Piece_frozen : Stmt := inClass (top 31) 1
abbrev s_Runner___init__ : Stmt := inClass (top 32) 0
abbrev s_Runner_enter : Stmt := inClass (top 32) 1
abbrev s_Runner_counted : Stmt := inClass (top 32) 2
abbrev s_Runner_save : Stmt := inClass (top 32) 3
abbrev s_Runner_add_piece : Stmt := inClass (top 32) 4
abbrev s_Runner_deliver : Stmt := inClass (top 32) 5
abbrev s_Runner_call : Stmt := inClass (top 32) 6
abbrev s_Runner_ask : Stmt := inClass (top 32) 7
abbrev s_Runner_handle : Stmt := inClass (top 32) 8
abbrev s_Runner_step : Stmt := inClass (top 32) 9
abbrev s_Runner_move : Stmt := inClass (top 32) 10
abbrev s_Runner_worked : Stmt := inClass (top 32) 11
abbrev s_run_kept : Stmt := top 33
abbrev s_run_code : Stmt := top 34
abbrev s_answers : Stmt := top 36
abbrev s_answers_at_once : Stmt := top 37
abbrev s_Code___init__ : Stmt := inClass (top 40) 0
abbrev s_Compiler___init__ : Stmt := inClass (top 42) 0
abbrev s_Compiler_block : Stmt := inClass (top 42) 1
abbrev s_Compiler_compile_all : Stmt := inClass (top 42) 2
abbrev s_Compiler_last : Stmt := inClass (top 42) 3
abbrev s_Compiler_value : Stmt := inClass (top 42) 4
abbrev s_Compiler_choice : Stmt := inClass (top 42) 5
abbrev s_Compiler_simple : Stmt := inClass (top 42) 6
abbrev s_Compiler_handler : Stmt := inClass (top 42) 7
abbrev s_compile_expression : Stmt := top 43
abbrev s__law_state : Stmt := top 45
abbrev s__law_take : Stmt := top 46
abbrev s__law_state_clauses : Stmt := top 47
abbrev s__law_roads : Stmt := top 48
abbrev s__law_cut : Stmt := top 49
abbrev s__law_deed : Stmt := top 50
abbrev s_law : Stmt := top 51
def mkD (at_ : Str × Option Str) (name qual : Str) (s : Stmt) : He.DefD := ⟨at_, name, qual, defArgs s, defBody s, defScope s, [], []⟩
def fn : List He.DefD := [
  mkD ("parts", none) "parts" "parts" s_parts,
  mkD ("with_parts", none) "with_parts" "with_parts" s_with_parts,
  mkD ("bound_names", none) "bound_names" "bound_names" s_bound_names,
  mkD ("put_in", none) "put_in" "put_in" s_put_in,
  mkD ("operated", none) "operated" "operated" s_operated,
  mkD ("is_value", none) "is_value" "is_value" s_is_value,
  mkD ("shape", none) "shape" "shape" s_shape,
  mkD ("quoted", none) "quoted" "quoted" s_quoted,
  mkD ("Run", some "__init__") "__init__" "Run.__init__" s_Run___init__,
  mkD ("Run", some "counted") "counted" "Run.counted" s_Run_counted,
  mkD ("Run", some "begin") "begin" "Run.begin" s_Run_begin,
  mkD ("Run", some "go_on") "go_on" "Run.go_on" s_Run_go_on,
  mkD ("Run", some "call") "call" "Run.call" s_Run_call,
  mkD ("Run", some "ask") "ask" "Run.ask" s_Run_ask,
  mkD ("Run", some "answer") "answer" "Run.answer" s_Run_answer,
  mkD ("run_plain", none) "run_plain" "run_plain" s_run_plain,
  mkD ("looked_up", none) "looked_up" "looked_up" s_looked_up,
  mkD ("calculated", none) "calculated" "calculated" s_calculated,
  mkD ("value_shape", none) "value_shape" "value_shape" s_value_shape,
  mkD ("Machine", some "__init__") "__init__" "Machine.__init__" s_Machine___init__,
  mkD ("Machine", some "step") "step" "Machine.step" s_Machine_step,
  mkD ("Machine", some "wait") "wait" "Machine.wait" s_Machine_wait,
  mkD ("Machine", some "add_piece") "add_piece" "Machine.add_piece" s_Machine_add_piece,
  mkD ("Machine", some "run") "run" "Machine.run" s_Machine_run,
  mkD ("Machine", some "handled") "handled" "Machine.handled" s_Machine_handled,
  mkD ("Machine", some "begin") "begin" "Machine.begin" s_Machine_begin,
  mkD ("Machine", some "resume") "resume" "Machine.resume" s_Machine_resume,
  mkD ("Machine", some "call") "call" "Machine.call" s_Machine_call,
  mkD ("Machine", some "ask") "ask" "Machine.ask" s_Machine_ask,
  mkD ("Machine", some "answer") "answer" "Machine.answer" s_Machine_answer,
  mkD ("run_counted", none) "run_counted" "run_counted" s_run_counted,
  mkD ("run_machine", none) "run_machine" "run_machine" s_run_machine,
  mkD ("Piece", some "__init__") "__init__" "Piece.__init__" s_Piece___init__,
  mkD ("Piece", some "frozen") "frozen" "Piece.frozen" s_Piece_frozen,
  mkD ("Runner", some "__init__") "__init__" "Runner.__init__" s_Runner___init__,
  mkD ("Runner", some "enter") "enter" "Runner.enter" s_Runner_enter,
  mkD ("Runner", some "counted") "counted" "Runner.counted" s_Runner_counted,
  mkD ("Runner", some "save") "save" "Runner.save" s_Runner_save,
  mkD ("Runner", some "add_piece") "add_piece" "Runner.add_piece" s_Runner_add_piece,
  mkD ("Runner", some "deliver") "deliver" "Runner.deliver" s_Runner_deliver,
  mkD ("Runner", some "call") "call" "Runner.call" s_Runner_call,
  mkD ("Runner", some "ask") "ask" "Runner.ask" s_Runner_ask,
  mkD ("Runner", some "handle") "handle" "Runner.handle" s_Runner_handle,
  mkD ("Runner", some "step") "step" "Runner.step" s_Runner_step,
  mkD ("Runner", some "move") "move" "Runner.move" s_Runner_move,
  mkD ("Runner", some "worked") "worked" "Runner.worked" s_Runner_worked,
  mkD ("run_kept", none) "run_kept" "run_kept" s_run_kept,
  mkD ("run_code", none) "run_code" "run_code" s_run_code,
  mkD ("answers", none) "answers" "answers" s_answers,
  mkD ("answers_at_once", none) "answers_at_once" "answers_at_once" s_answers_at_once,
  mkD ("Code", some "__init__") "__init__" "Code.__init__" s_Code___init__,
  mkD ("Compiler", some "__init__") "__init__" "Compiler.__init__" s_Compiler___init__,
  mkD ("Compiler", some "block") "block" "Compiler.block" s_Compiler_block,
  mkD ("Compiler", some "compile_all") "compile_all" "Compiler.compile_all" s_Compiler_compile_all,
  mkD ("Compiler", some "last") "last" "Compiler.last" s_Compiler_last,
  mkD ("Compiler", some "value") "value" "Compiler.value" s_Compiler_value,
  mkD ("Compiler", some "choice") "choice" "Compiler.choice" s_Compiler_choice,
  mkD ("Compiler", some "simple") "simple" "Compiler.simple" s_Compiler_simple,
  mkD ("Compiler", some "handler") "handler" "Compiler.handler" s_Compiler_handler,
  mkD ("compile_expression", none) "compile_expression" "compile_expression" s_compile_expression,
  mkD ("_law_state", none) "_law_state" "_law_state" s__law_state,
  mkD ("_law_take", none) "_law_take" "_law_take" s__law_take,
  mkD ("_law_state_clauses", none) "_law_state_clauses" "_law_state_clauses" s__law_state_clauses,
  mkD ("_law_roads", none) "_law_roads" "_law_roads" s__law_roads,
  mkD ("_law_cut", none) "_law_cut" "_law_cut" s__law_cut,
  mkD ("_law_deed", none) "_law_deed" "_law_deed" s__law_deed,
  mkD ("law", none) "law" "law" s_law]
def fa : List He.Fa := [
  .cls "Run",
  .mkr "Run",
  .noat "Run" "current",
  .noat "Run" "end",
  .noat "Run" "frames",
  .noat "Run" "left",
  .noat "Run" "prints",
  .meth "Run" "counted",
  .meth "Run" "begin",
  .meth "Run" "go_on",
  .meth "Run" "call",
  .meth "Run" "ask",
  .meth "Run" "answer",
  .glo "Run",
  .cls "Machine",
  .mkr "Machine",
  .noat "Machine" "kept",
  .noat "Machine" "left",
  .noat "Machine" "most",
  .noat "Machine" "pieces",
  .noat "Machine" "prints",
  .meth "Machine" "step",
  .meth "Machine" "wait",
  .meth "Machine" "add_piece",
  .meth "Machine" "run",
  .meth "Machine" "handled",
  .meth "Machine" "begin",
  .meth "Machine" "resume",
  .meth "Machine" "call",
  .meth "Machine" "ask",
  .meth "Machine" "answer",
  .glo "Machine",
  .cls "Piece",
  .mkr "Piece",
  .noat "Piece" "distance",
  .noat "Piece" "frames",
  .noat "Piece" "handler",
  .noat "Piece" "kind",
  .noat "Piece" "table",
  .meth "Piece" "frozen",
  .glo "Piece",
  .cls "Runner",
  .mkr "Runner",
  .noat "Runner" "at",
  .noat "Runner" "bindings",
  .noat "Runner" "blocks",
  .noat "Runner" "end",
  .noat "Runner" "kept",
  .noat "Runner" "left",
  .noat "Runner" "operands",
  .noat "Runner" "pieces",
  .noat "Runner" "prints",
  .noat "Runner" "rows",
  .meth "Runner" "enter",
  .meth "Runner" "counted",
  .meth "Runner" "save",
  .meth "Runner" "add_piece",
  .meth "Runner" "deliver",
  .meth "Runner" "call",
  .meth "Runner" "ask",
  .meth "Runner" "handle",
  .meth "Runner" "step",
  .meth "Runner" "move",
  .meth "Runner" "worked",
  .glo "Runner",
  .cls "Code",
  .mkr "Code",
  .noat "Code" "blocks",
  .glo "Code",
  .cls "Compiler",
  .mkr "Compiler",
  .noat "Compiler" "blocks",
  .noat "Compiler" "queue",
  .meth "Compiler" "block",
  .meth "Compiler" "compile_all",
  .meth "Compiler" "last",
  .meth "Compiler" "value",
  .meth "Compiler" "choice",
  .meth "Compiler" "simple",
  .meth "Compiler" "handler",
  .glo "Compiler",
  .glo "parts",
  .glo "with_parts",
  .glo "bound_names",
  .glo "put_in",
  .glo "operated",
  .glo "is_value",
  .glo "shape",
  .glo "quoted",
  .glo "run_plain",
  .glo "looked_up",
  .glo "calculated",
  .glo "value_shape",
  .glo "run_counted",
  .glo "run_machine",
  .glo "run_kept",
  .glo "run_code",
  .glo "answers",
  .glo "answers_at_once",
  .glo "compile_expression",
  .glo "_law_state",
  .glo "_law_take",
  .glo "_law_state_clauses",
  .glo "_law_roads",
  .glo "_law_cut",
  .glo "_law_deed",
  .glo "law",
  .free "len",
  .free "list",
  .free "tuple",
  .free "reversed",
  .free "range",
  .free "int",
  .free "zip",
  .free "abs",
  .free "max",
  .free "all",
  .int "HALF" 2147483648,
  .int "BOTTOM" 0,
  .int "HANDLER" 1,
  .int "PLACE" 2,
  .glo "LEAVES_trees",
  .glo "UNIT_plain",
  .glo "UNIT_machine",
  .glo "UNIT_runner",
  .glo "LEAVES_code"]
def noB (K : PySem.W.Frag) (a : Addr) (zs : List Str) : Bool := zs.all fun z => match PySem.W.nsIn K a z with | some none => true | _ => false
theorem noB_ok {K : PySem.W.Frag} {a : Addr} {zs : List Str} (h : noB K a zs = true) {z : Str} (m : z ∈ zs) : PySem.W.nsIn K a z = some none := by
  have := List.all_eq_true.mp h z m
  revert this
  split
  · intro _; assumption
  · intro h; cases h
def ex (K : PySem.W.Frag) : Bool := He.tupB K "LEAVES_trees" [.str "num", .str "flag", .str "unit", .str "name", .str "kept", .str "quoted"] && (He.tupB K "UNIT_plain" [.str "unit"] && (He.tupB K "UNIT_machine" [.str "unit"] && (He.tupB K "UNIT_runner" [.str "unit"] && (He.valsB K (He.ga K "LEAVES_code") [("num", .str "int"), ("flag", .str "flag"), ("unit", .str "unit")] && noB K (He.ga K "LEAVES_code") ["name", "fun", "rec", "let", "if", "print", "handle", "call", "op", "ask", "pair"]))))
def ts : List He.Tab := [(fun K => He.ga K "LEAVES_code", ["num", "flag", "unit"])]
abbrev FnP (K : PySem.W.Frag) (x qual : Str) (st : Stmt) (f : Addr) : Prop := ∃ fd, FunD K x qual (defArgs st) (defBody st) (defScope st) [] [] f fd
structure Txt (w : World) (K : PySem.W.Frag) (mg : Str → Option Value) : Prop where
  cRun : Cls K (He.ga K "Run")
  mkRun : Mk K (He.ga K "Run") (He.ma K (He.ga K "Run") "__init__")
  nRun_current : NoAttr K (He.ga K "Run") "current"
  nRun_end : NoAttr K (He.ga K "Run") "end"
  nRun_frames : NoAttr K (He.ga K "Run") "frames"
  nRun_left : NoAttr K (He.ga K "Run") "left"
  nRun_prints : NoAttr K (He.ga K "Run") "prints"
  mRun_counted : Meth K (He.ga K "Run") "counted" (He.ma K (He.ga K "Run") "counted")
  mRun_begin : Meth K (He.ga K "Run") "begin" (He.ma K (He.ga K "Run") "begin")
  mRun_go_on : Meth K (He.ga K "Run") "go_on" (He.ma K (He.ga K "Run") "go_on")
  mRun_call : Meth K (He.ga K "Run") "call" (He.ma K (He.ga K "Run") "call")
  mRun_ask : Meth K (He.ga K "Run") "ask" (He.ma K (He.ga K "Run") "ask")
  mRun_answer : Meth K (He.ga K "Run") "answer" (He.ma K (He.ga K "Run") "answer")
  g_Run : mg "Run" = some (.ref (He.ga K "Run"))
  cMachine : Cls K (He.ga K "Machine")
  mkMachine : Mk K (He.ga K "Machine") (He.ma K (He.ga K "Machine") "__init__")
  nMachine_kept : NoAttr K (He.ga K "Machine") "kept"
  nMachine_left : NoAttr K (He.ga K "Machine") "left"
  nMachine_most : NoAttr K (He.ga K "Machine") "most"
  nMachine_pieces : NoAttr K (He.ga K "Machine") "pieces"
  nMachine_prints : NoAttr K (He.ga K "Machine") "prints"
  mMachine_step : Meth K (He.ga K "Machine") "step" (He.ma K (He.ga K "Machine") "step")
  mMachine_wait : Meth K (He.ga K "Machine") "wait" (He.ma K (He.ga K "Machine") "wait")
  mMachine_add_piece : Meth K (He.ga K "Machine") "add_piece" (He.ma K (He.ga K "Machine") "add_piece")
  mMachine_run : Meth K (He.ga K "Machine") "run" (He.ma K (He.ga K "Machine") "run")
  mMachine_handled : Meth K (He.ga K "Machine") "handled" (He.ma K (He.ga K "Machine") "handled")
  mMachine_begin : Meth K (He.ga K "Machine") "begin" (He.ma K (He.ga K "Machine") "begin")
  mMachine_resume : Meth K (He.ga K "Machine") "resume" (He.ma K (He.ga K "Machine") "resume")
  mMachine_call : Meth K (He.ga K "Machine") "call" (He.ma K (He.ga K "Machine") "call")
  mMachine_ask : Meth K (He.ga K "Machine") "ask" (He.ma K (He.ga K "Machine") "ask")
  mMachine_answer : Meth K (He.ga K "Machine") "answer" (He.ma K (He.ga K "Machine") "answer")
  g_Machine : mg "Machine" = some (.ref (He.ga K "Machine"))
  cPiece : Cls K (He.ga K "Piece")
  mkPiece : Mk K (He.ga K "Piece") (He.ma K (He.ga K "Piece") "__init__")
  nPiece_distance : NoAttr K (He.ga K "Piece") "distance"
  nPiece_frames : NoAttr K (He.ga K "Piece") "frames"
  nPiece_handler : NoAttr K (He.ga K "Piece") "handler"
  nPiece_kind : NoAttr K (He.ga K "Piece") "kind"
  nPiece_table : NoAttr K (He.ga K "Piece") "table"
  mPiece_frozen : Meth K (He.ga K "Piece") "frozen" (He.ma K (He.ga K "Piece") "frozen")
  g_Piece : mg "Piece" = some (.ref (He.ga K "Piece"))
  cRunner : Cls K (He.ga K "Runner")
  mkRunner : Mk K (He.ga K "Runner") (He.ma K (He.ga K "Runner") "__init__")
  nRunner_at : NoAttr K (He.ga K "Runner") "at"
  nRunner_bindings : NoAttr K (He.ga K "Runner") "bindings"
  nRunner_blocks : NoAttr K (He.ga K "Runner") "blocks"
  nRunner_end : NoAttr K (He.ga K "Runner") "end"
  nRunner_kept : NoAttr K (He.ga K "Runner") "kept"
  nRunner_left : NoAttr K (He.ga K "Runner") "left"
  nRunner_operands : NoAttr K (He.ga K "Runner") "operands"
  nRunner_pieces : NoAttr K (He.ga K "Runner") "pieces"
  nRunner_prints : NoAttr K (He.ga K "Runner") "prints"
  nRunner_rows : NoAttr K (He.ga K "Runner") "rows"
  mRunner_enter : Meth K (He.ga K "Runner") "enter" (He.ma K (He.ga K "Runner") "enter")
  mRunner_counted : Meth K (He.ga K "Runner") "counted" (He.ma K (He.ga K "Runner") "counted")
  mRunner_save : Meth K (He.ga K "Runner") "save" (He.ma K (He.ga K "Runner") "save")
  mRunner_add_piece : Meth K (He.ga K "Runner") "add_piece" (He.ma K (He.ga K "Runner") "add_piece")
  mRunner_deliver : Meth K (He.ga K "Runner") "deliver" (He.ma K (He.ga K "Runner") "deliver")
  mRunner_call : Meth K (He.ga K "Runner") "call" (He.ma K (He.ga K "Runner") "call")
  mRunner_ask : Meth K (He.ga K "Runner") "ask" (He.ma K (He.ga K "Runner") "ask")
  mRunner_handle : Meth K (He.ga K "Runner") "handle" (He.ma K (He.ga K "Runner") "handle")
  mRunner_step : Meth K (He.ga K "Runner") "step" (He.ma K (He.ga K "Runner") "step")
  mRunner_move : Meth K (He.ga K "Runner") "move" (He.ma K (He.ga K "Runner") "move")
  mRunner_worked : Meth K (He.ga K "Runner") "worked" (He.ma K (He.ga K "Runner") "worked")
  g_Runner : mg "Runner" = some (.ref (He.ga K "Runner"))
  cCode : Cls K (He.ga K "Code")
  mkCode : Mk K (He.ga K "Code") (He.ma K (He.ga K "Code") "__init__")
  nCode_blocks : NoAttr K (He.ga K "Code") "blocks"
  g_Code : mg "Code" = some (.ref (He.ga K "Code"))
  cCompiler : Cls K (He.ga K "Compiler")
  mkCompiler : Mk K (He.ga K "Compiler") (He.ma K (He.ga K "Compiler") "__init__")
  nCompiler_blocks : NoAttr K (He.ga K "Compiler") "blocks"
  nCompiler_queue : NoAttr K (He.ga K "Compiler") "queue"
  mCompiler_block : Meth K (He.ga K "Compiler") "block" (He.ma K (He.ga K "Compiler") "block")
  mCompiler_compile_all : Meth K (He.ga K "Compiler") "compile_all" (He.ma K (He.ga K "Compiler") "compile_all")
  mCompiler_last : Meth K (He.ga K "Compiler") "last" (He.ma K (He.ga K "Compiler") "last")
  mCompiler_value : Meth K (He.ga K "Compiler") "value" (He.ma K (He.ga K "Compiler") "value")
  mCompiler_choice : Meth K (He.ga K "Compiler") "choice" (He.ma K (He.ga K "Compiler") "choice")
  mCompiler_simple : Meth K (He.ga K "Compiler") "simple" (He.ma K (He.ga K "Compiler") "simple")
  mCompiler_handler : Meth K (He.ga K "Compiler") "handler" (He.ma K (He.ga K "Compiler") "handler")
  g_Compiler : mg "Compiler" = some (.ref (He.ga K "Compiler"))
  g_parts : mg "parts" = some (.ref (He.ga K "parts"))
  g_with_parts : mg "with_parts" = some (.ref (He.ga K "with_parts"))
  g_bound_names : mg "bound_names" = some (.ref (He.ga K "bound_names"))
  g_put_in : mg "put_in" = some (.ref (He.ga K "put_in"))
  g_operated : mg "operated" = some (.ref (He.ga K "operated"))
  g_is_value : mg "is_value" = some (.ref (He.ga K "is_value"))
  g_shape : mg "shape" = some (.ref (He.ga K "shape"))
  g_quoted : mg "quoted" = some (.ref (He.ga K "quoted"))
  g_run_plain : mg "run_plain" = some (.ref (He.ga K "run_plain"))
  g_looked_up : mg "looked_up" = some (.ref (He.ga K "looked_up"))
  g_calculated : mg "calculated" = some (.ref (He.ga K "calculated"))
  g_value_shape : mg "value_shape" = some (.ref (He.ga K "value_shape"))
  g_run_counted : mg "run_counted" = some (.ref (He.ga K "run_counted"))
  g_run_machine : mg "run_machine" = some (.ref (He.ga K "run_machine"))
  g_run_kept : mg "run_kept" = some (.ref (He.ga K "run_kept"))
  g_run_code : mg "run_code" = some (.ref (He.ga K "run_code"))
  g_answers : mg "answers" = some (.ref (He.ga K "answers"))
  g_answers_at_once : mg "answers_at_once" = some (.ref (He.ga K "answers_at_once"))
  g_compile_expression : mg "compile_expression" = some (.ref (He.ga K "compile_expression"))
  g__law_state : mg "_law_state" = some (.ref (He.ga K "_law_state"))
  g__law_take : mg "_law_take" = some (.ref (He.ga K "_law_take"))
  g__law_state_clauses : mg "_law_state_clauses" = some (.ref (He.ga K "_law_state_clauses"))
  g__law_roads : mg "_law_roads" = some (.ref (He.ga K "_law_roads"))
  g__law_cut : mg "_law_cut" = some (.ref (He.ga K "_law_cut"))
  g__law_deed : mg "_law_deed" = some (.ref (He.ga K "_law_deed"))
  g_law : mg "law" = some (.ref (He.ga K "law"))
  z_len : mg "len" = none
  z_list : mg "list" = none
  z_tuple : mg "tuple" = none
  z_reversed : mg "reversed" = none
  z_range : mg "range" = none
  z_int : mg "int" = none
  z_zip : mg "zip" = none
  z_abs : mg "abs" = none
  z_max : mg "max" = none
  z_all : mg "all" = none
  i_HALF : ∃ t, mg "HALF" = some (.int 2147483648 t)
  i_BOTTOM : ∃ t, mg "BOTTOM" = some (.int 0 t)
  i_HANDLER : ∃ t, mg "HANDLER" = some (.int 1 t)
  i_PLACE : ∃ t, mg "PLACE" = some (.int 2 t)
  g_LEAVES_trees : mg "LEAVES_trees" = some (.ref (He.ga K "LEAVES_trees"))
  g_UNIT_plain : mg "UNIT_plain" = some (.ref (He.ga K "UNIT_plain"))
  g_UNIT_machine : mg "UNIT_machine" = some (.ref (He.ga K "UNIT_machine"))
  g_UNIT_runner : mg "UNIT_runner" = some (.ref (He.ga K "UNIT_runner"))
  g_LEAVES_code : mg "LEAVES_code" = some (.ref (He.ga K "LEAVES_code"))
  f_parts : FnP K "parts" "parts" s_parts (He.ga K "parts")
  f_with_parts : FnP K "with_parts" "with_parts" s_with_parts (He.ga K "with_parts")
  f_bound_names : FnP K "bound_names" "bound_names" s_bound_names (He.ga K "bound_names")
  f_put_in : FnP K "put_in" "put_in" s_put_in (He.ga K "put_in")
  f_operated : FnP K "operated" "operated" s_operated (He.ga K "operated")
  f_is_value : FnP K "is_value" "is_value" s_is_value (He.ga K "is_value")
  f_shape : FnP K "shape" "shape" s_shape (He.ga K "shape")
  f_quoted : FnP K "quoted" "quoted" s_quoted (He.ga K "quoted")
  f_Run___init__ : FnP K "__init__" "Run.__init__" s_Run___init__ (He.ma K (He.ga K "Run") "__init__")
  f_Run_counted : FnP K "counted" "Run.counted" s_Run_counted (He.ma K (He.ga K "Run") "counted")
  f_Run_begin : FnP K "begin" "Run.begin" s_Run_begin (He.ma K (He.ga K "Run") "begin")
  f_Run_go_on : FnP K "go_on" "Run.go_on" s_Run_go_on (He.ma K (He.ga K "Run") "go_on")
  f_Run_call : FnP K "call" "Run.call" s_Run_call (He.ma K (He.ga K "Run") "call")
  f_Run_ask : FnP K "ask" "Run.ask" s_Run_ask (He.ma K (He.ga K "Run") "ask")
  f_Run_answer : FnP K "answer" "Run.answer" s_Run_answer (He.ma K (He.ga K "Run") "answer")
  f_run_plain : FnP K "run_plain" "run_plain" s_run_plain (He.ga K "run_plain")
  f_looked_up : FnP K "looked_up" "looked_up" s_looked_up (He.ga K "looked_up")
  f_calculated : FnP K "calculated" "calculated" s_calculated (He.ga K "calculated")
  f_value_shape : FnP K "value_shape" "value_shape" s_value_shape (He.ga K "value_shape")
  f_Machine___init__ : FnP K "__init__" "Machine.__init__" s_Machine___init__ (He.ma K (He.ga K "Machine") "__init__")
  f_Machine_step : FnP K "step" "Machine.step" s_Machine_step (He.ma K (He.ga K "Machine") "step")
  f_Machine_wait : FnP K "wait" "Machine.wait" s_Machine_wait (He.ma K (He.ga K "Machine") "wait")
  f_Machine_add_piece : FnP K "add_piece" "Machine.add_piece" s_Machine_add_piece (He.ma K (He.ga K "Machine") "add_piece")
  f_Machine_run : FnP K "run" "Machine.run" s_Machine_run (He.ma K (He.ga K "Machine") "run")
  f_Machine_handled : FnP K "handled" "Machine.handled" s_Machine_handled (He.ma K (He.ga K "Machine") "handled")
  f_Machine_begin : FnP K "begin" "Machine.begin" s_Machine_begin (He.ma K (He.ga K "Machine") "begin")
  f_Machine_resume : FnP K "resume" "Machine.resume" s_Machine_resume (He.ma K (He.ga K "Machine") "resume")
  f_Machine_call : FnP K "call" "Machine.call" s_Machine_call (He.ma K (He.ga K "Machine") "call")
  f_Machine_ask : FnP K "ask" "Machine.ask" s_Machine_ask (He.ma K (He.ga K "Machine") "ask")
  f_Machine_answer : FnP K "answer" "Machine.answer" s_Machine_answer (He.ma K (He.ga K "Machine") "answer")
  f_run_counted : FnP K "run_counted" "run_counted" s_run_counted (He.ga K "run_counted")
  f_run_machine : FnP K "run_machine" "run_machine" s_run_machine (He.ga K "run_machine")
  f_Piece___init__ : FnP K "__init__" "Piece.__init__" s_Piece___init__ (He.ma K (He.ga K "Piece") "__init__")
  f_Piece_frozen : FnP K "frozen" "Piece.frozen" s_Piece_frozen (He.ma K (He.ga K "Piece") "frozen")
  f_Runner___init__ : FnP K "__init__" "Runner.__init__" s_Runner___init__ (He.ma K (He.ga K "Runner") "__init__")
  f_Runner_enter : FnP K "enter" "Runner.enter" s_Runner_enter (He.ma K (He.ga K "Runner") "enter")
  f_Runner_counted : FnP K "counted" "Runner.counted" s_Runner_counted (He.ma K (He.ga K "Runner") "counted")
  f_Runner_save : FnP K "save" "Runner.save" s_Runner_save (He.ma K (He.ga K "Runner") "save")
  f_Runner_add_piece : FnP K "add_piece" "Runner.add_piece" s_Runner_add_piece (He.ma K (He.ga K "Runner") "add_piece")
  f_Runner_deliver : FnP K "deliver" "Runner.deliver" s_Runner_deliver (He.ma K (He.ga K "Runner") "deliver")
  f_Runner_call : FnP K "call" "Runner.call" s_Runner_call (He.ma K (He.ga K "Runner") "call")
  f_Runner_ask : FnP K "ask" "Runner.ask" s_Runner_ask (He.ma K (He.ga K "Runner") "ask")
  f_Runner_handle : FnP K "handle" "Runner.handle" s_Runner_handle (He.ma K (He.ga K "Runner") "handle")
  f_Runner_step : FnP K "step" "Runner.step" s_Runner_step (He.ma K (He.ga K "Runner") "step")
  f_Runner_move : FnP K "move" "Runner.move" s_Runner_move (He.ma K (He.ga K "Runner") "move")
  f_Runner_worked : FnP K "worked" "Runner.worked" s_Runner_worked (He.ma K (He.ga K "Runner") "worked")
  f_run_kept : FnP K "run_kept" "run_kept" s_run_kept (He.ga K "run_kept")
  f_run_code : FnP K "run_code" "run_code" s_run_code (He.ga K "run_code")
  f_answers : FnP K "answers" "answers" s_answers (He.ga K "answers")
  f_answers_at_once : FnP K "answers_at_once" "answers_at_once" s_answers_at_once (He.ga K "answers_at_once")
  f_Code___init__ : FnP K "__init__" "Code.__init__" s_Code___init__ (He.ma K (He.ga K "Code") "__init__")
  f_Compiler___init__ : FnP K "__init__" "Compiler.__init__" s_Compiler___init__ (He.ma K (He.ga K "Compiler") "__init__")
  f_Compiler_block : FnP K "block" "Compiler.block" s_Compiler_block (He.ma K (He.ga K "Compiler") "block")
  f_Compiler_compile_all : FnP K "compile_all" "Compiler.compile_all" s_Compiler_compile_all (He.ma K (He.ga K "Compiler") "compile_all")
  f_Compiler_last : FnP K "last" "Compiler.last" s_Compiler_last (He.ma K (He.ga K "Compiler") "last")
  f_Compiler_value : FnP K "value" "Compiler.value" s_Compiler_value (He.ma K (He.ga K "Compiler") "value")
  f_Compiler_choice : FnP K "choice" "Compiler.choice" s_Compiler_choice (He.ma K (He.ga K "Compiler") "choice")
  f_Compiler_simple : FnP K "simple" "Compiler.simple" s_Compiler_simple (He.ma K (He.ga K "Compiler") "simple")
  f_Compiler_handler : FnP K "handler" "Compiler.handler" s_Compiler_handler (He.ma K (He.ga K "Compiler") "handler")
  f_compile_expression : FnP K "compile_expression" "compile_expression" s_compile_expression (He.ga K "compile_expression")
  f__law_state : FnP K "_law_state" "_law_state" s__law_state (He.ga K "_law_state")
  f__law_take : FnP K "_law_take" "_law_take" s__law_take (He.ga K "_law_take")
  f__law_state_clauses : FnP K "_law_state_clauses" "_law_state_clauses" s__law_state_clauses (He.ga K "_law_state_clauses")
  f__law_roads : FnP K "_law_roads" "_law_roads" s__law_roads (He.ga K "_law_roads")
  f__law_cut : FnP K "_law_cut" "_law_cut" s__law_cut (He.ga K "_law_cut")
  f__law_deed : FnP K "_law_deed" "_law_deed" s__law_deed (He.ga K "_law_deed")
  f_law : FnP K "law" "law" s_law (He.ga K "law")
  t_LEAVES_trees : ∀ H : Hp, SqT K H (He.ga K "LEAVES_trees") [V.str "num", V.str "flag", V.str "unit", V.str "name", V.str "kept", V.str "quoted"]
  t_UNIT_plain : ∀ H : Hp, SqT K H (He.ga K "UNIT_plain") [V.str "unit"]
  t_UNIT_machine : ∀ H : Hp, SqT K H (He.ga K "UNIT_machine") [V.str "unit"]
  t_UNIT_runner : ∀ H : Hp, SqT K H (He.ga K "UNIT_runner") [V.str "unit"]
  leaves : ∃ es n, KDict K w (He.ga K "LEAVES_code") es n
  lv_num : ∃ u, PySem.W.nsIn K (He.ga K "LEAVES_code") "num" = some (some u) ∧ RelV (V.str "int") u
  lv_flag : ∃ u, PySem.W.nsIn K (He.ga K "LEAVES_code") "flag" = some (some u) ∧ RelV (V.str "flag") u
  lv_unit : ∃ u, PySem.W.nsIn K (He.ga K "LEAVES_code") "unit" = some (some u) ∧ RelV (V.str "unit") u
  lv_no : ∀ z ∈ (["name", "fun", "rec", "let", "if", "print", "handle", "call", "op", "ask", "pair"] : List Str), PySem.W.nsIn K (He.ga K "LEAVES_code") z = some none
theorem txt_of {w : World} {h0 h : Heap} {K : PySem.W.Frag} {mg : Str → Option Value} (X : K.In h) (G : h.Ns mainGlobals mg) (c : He.SaysX fa fn ts [] ex w h0 K) : Txt w K mg := by
  obtain ⟨e1, e⟩ := He.ba (show (He.tupB K "LEAVES_trees" _ && _) = true from c.more)
  obtain ⟨e2, e⟩ := He.ba e
  obtain ⟨e3, e⟩ := He.ba e
  obtain ⟨e4, e⟩ := He.ba e
  obtain ⟨e5, e6⟩ := He.ba e
  exact ⟨He.cls_ok (c.t.d.fact 0),
    He.mkr_ok (c.t.d.fact 1),
    He.noat_ok (c.t.d.fact 2),
    He.noat_ok (c.t.d.fact 3),
    He.noat_ok (c.t.d.fact 4),
    He.noat_ok (c.t.d.fact 5),
    He.noat_ok (c.t.d.fact 6),
    He.meth_ok (c.t.d.fact 7),
    He.meth_ok (c.t.d.fact 8),
    He.meth_ok (c.t.d.fact 9),
    He.meth_ok (c.t.d.fact 10),
    He.meth_ok (c.t.d.fact 11),
    He.meth_ok (c.t.d.fact 12),
    He.glo_ok X G (c.t.d.fact 13),
    He.cls_ok (c.t.d.fact 14),
    He.mkr_ok (c.t.d.fact 15),
    He.noat_ok (c.t.d.fact 16),
    He.noat_ok (c.t.d.fact 17),
    He.noat_ok (c.t.d.fact 18),
    He.noat_ok (c.t.d.fact 19),
    He.noat_ok (c.t.d.fact 20),
    He.meth_ok (c.t.d.fact 21),
    He.meth_ok (c.t.d.fact 22),
    He.meth_ok (c.t.d.fact 23),
    He.meth_ok (c.t.d.fact 24),
    He.meth_ok (c.t.d.fact 25),
    He.meth_ok (c.t.d.fact 26),
    He.meth_ok (c.t.d.fact 27),
    He.meth_ok (c.t.d.fact 28),
    He.meth_ok (c.t.d.fact 29),
    He.meth_ok (c.t.d.fact 30),
    He.glo_ok X G (c.t.d.fact 31),
    He.cls_ok (c.t.d.fact 32),
    He.mkr_ok (c.t.d.fact 33),
    He.noat_ok (c.t.d.fact 34),
    He.noat_ok (c.t.d.fact 35),
    He.noat_ok (c.t.d.fact 36),
    He.noat_ok (c.t.d.fact 37),
    He.noat_ok (c.t.d.fact 38),
    He.meth_ok (c.t.d.fact 39),
    He.glo_ok X G (c.t.d.fact 40),
    He.cls_ok (c.t.d.fact 41),
    He.mkr_ok (c.t.d.fact 42),
    He.noat_ok (c.t.d.fact 43),
    He.noat_ok (c.t.d.fact 44),
    He.noat_ok (c.t.d.fact 45),
    He.noat_ok (c.t.d.fact 46),
    He.noat_ok (c.t.d.fact 47),
    He.noat_ok (c.t.d.fact 48),
    He.noat_ok (c.t.d.fact 49),
    He.noat_ok (c.t.d.fact 50),
    He.noat_ok (c.t.d.fact 51),
    He.noat_ok (c.t.d.fact 52),
    He.meth_ok (c.t.d.fact 53),
    He.meth_ok (c.t.d.fact 54),
    He.meth_ok (c.t.d.fact 55),
    He.meth_ok (c.t.d.fact 56),
    He.meth_ok (c.t.d.fact 57),
    He.meth_ok (c.t.d.fact 58),
    He.meth_ok (c.t.d.fact 59),
    He.meth_ok (c.t.d.fact 60),
    He.meth_ok (c.t.d.fact 61),
    He.meth_ok (c.t.d.fact 62),
    He.meth_ok (c.t.d.fact 63),
    He.glo_ok X G (c.t.d.fact 64),
    He.cls_ok (c.t.d.fact 65),
    He.mkr_ok (c.t.d.fact 66),
    He.noat_ok (c.t.d.fact 67),
    He.glo_ok X G (c.t.d.fact 68),
    He.cls_ok (c.t.d.fact 69),
    He.mkr_ok (c.t.d.fact 70),
    He.noat_ok (c.t.d.fact 71),
    He.noat_ok (c.t.d.fact 72),
    He.meth_ok (c.t.d.fact 73),
    He.meth_ok (c.t.d.fact 74),
    He.meth_ok (c.t.d.fact 75),
    He.meth_ok (c.t.d.fact 76),
    He.meth_ok (c.t.d.fact 77),
    He.meth_ok (c.t.d.fact 78),
    He.meth_ok (c.t.d.fact 79),
    He.glo_ok X G (c.t.d.fact 80),
    He.glo_ok X G (c.t.d.fact 81),
    He.glo_ok X G (c.t.d.fact 82),
    He.glo_ok X G (c.t.d.fact 83),
    He.glo_ok X G (c.t.d.fact 84),
    He.glo_ok X G (c.t.d.fact 85),
    He.glo_ok X G (c.t.d.fact 86),
    He.glo_ok X G (c.t.d.fact 87),
    He.glo_ok X G (c.t.d.fact 88),
    He.glo_ok X G (c.t.d.fact 89),
    He.glo_ok X G (c.t.d.fact 90),
    He.glo_ok X G (c.t.d.fact 91),
    He.glo_ok X G (c.t.d.fact 92),
    He.glo_ok X G (c.t.d.fact 93),
    He.glo_ok X G (c.t.d.fact 94),
    He.glo_ok X G (c.t.d.fact 95),
    He.glo_ok X G (c.t.d.fact 96),
    He.glo_ok X G (c.t.d.fact 97),
    He.glo_ok X G (c.t.d.fact 98),
    He.glo_ok X G (c.t.d.fact 99),
    He.glo_ok X G (c.t.d.fact 100),
    He.glo_ok X G (c.t.d.fact 101),
    He.glo_ok X G (c.t.d.fact 102),
    He.glo_ok X G (c.t.d.fact 103),
    He.glo_ok X G (c.t.d.fact 104),
    He.glo_ok X G (c.t.d.fact 105),
    He.glo_ok X G (c.t.d.fact 106),
    He.free_ok X G (c.t.d.fact 107),
    He.free_ok X G (c.t.d.fact 108),
    He.free_ok X G (c.t.d.fact 109),
    He.free_ok X G (c.t.d.fact 110),
    He.free_ok X G (c.t.d.fact 111),
    He.free_ok X G (c.t.d.fact 112),
    He.free_ok X G (c.t.d.fact 113),
    He.free_ok X G (c.t.d.fact 114),
    He.free_ok X G (c.t.d.fact 115),
    He.free_ok X G (c.t.d.fact 116),
    He.int_ok X G (c.t.d.fact 117),
    He.int_ok X G (c.t.d.fact 118),
    He.int_ok X G (c.t.d.fact 119),
    He.int_ok X G (c.t.d.fact 120),
    He.glo_ok X G (c.t.d.fact 121),
    He.glo_ok X G (c.t.d.fact 122),
    He.glo_ok X G (c.t.d.fact 123),
    He.glo_ok X G (c.t.d.fact 124),
    He.glo_ok X G (c.t.d.fact 125),
    c.t.d.def_ 0,
    c.t.d.def_ 1,
    c.t.d.def_ 2,
    c.t.d.def_ 3,
    c.t.d.def_ 4,
    c.t.d.def_ 5,
    c.t.d.def_ 6,
    c.t.d.def_ 7,
    c.t.d.def_ 8,
    c.t.d.def_ 9,
    c.t.d.def_ 10,
    c.t.d.def_ 11,
    c.t.d.def_ 12,
    c.t.d.def_ 13,
    c.t.d.def_ 14,
    c.t.d.def_ 15,
    c.t.d.def_ 16,
    c.t.d.def_ 17,
    c.t.d.def_ 18,
    c.t.d.def_ 19,
    c.t.d.def_ 20,
    c.t.d.def_ 21,
    c.t.d.def_ 22,
    c.t.d.def_ 23,
    c.t.d.def_ 24,
    c.t.d.def_ 25,
    c.t.d.def_ 26,
    c.t.d.def_ 27,
    c.t.d.def_ 28,
    c.t.d.def_ 29,
    c.t.d.def_ 30,
    c.t.d.def_ 31,
    c.t.d.def_ 32,
    c.t.d.def_ 33,
    c.t.d.def_ 34,
    c.t.d.def_ 35,
    c.t.d.def_ 36,
    c.t.d.def_ 37,
    c.t.d.def_ 38,
    c.t.d.def_ 39,
    c.t.d.def_ 40,
    c.t.d.def_ 41,
    c.t.d.def_ 42,
    c.t.d.def_ 43,
    c.t.d.def_ 44,
    c.t.d.def_ 45,
    c.t.d.def_ 46,
    c.t.d.def_ 47,
    c.t.d.def_ 48,
    c.t.d.def_ 49,
    c.t.d.def_ 50,
    c.t.d.def_ 51,
    c.t.d.def_ 52,
    c.t.d.def_ 53,
    c.t.d.def_ 54,
    c.t.d.def_ 55,
    c.t.d.def_ 56,
    c.t.d.def_ 57,
    c.t.d.def_ 58,
    c.t.d.def_ 59,
    c.t.d.def_ 60,
    c.t.d.def_ 61,
    c.t.d.def_ 62,
    c.t.d.def_ 63,
    c.t.d.def_ 64,
    c.t.d.def_ 65,
    c.t.d.def_ 66,
    fun H => He.tupB_ok e1 H,
    fun H => He.tupB_ok e2 H,
    fun H => He.tupB_ok e3 H,
    fun H => He.tupB_ok e4 H,
    c.t.tab 0,
    He.valsB_ok e5 (q := ("num", .str "int")) (by simp),
    He.valsB_ok e5 (q := ("flag", .str "flag")) (by simp),
    He.valsB_ok e5 (q := ("unit", .str "unit")) (by simp),
    fun z m => noB_ok e6 m⟩
/-! ### defs by their bodies -/
section
variable {P : Program} {w : World} {K : PySem.W.Frag} {mg : Str → Option Value} {base : Heap} {x m qual : Str} {st : Stmt} {f C : Addr} {N ps : List Str} {k : Nat} {sp : Sp}
abbrev BindOk (x qual : Str) (st : Stmt) (ps : List Str) : Prop := ∀ (kV doc pm : Value) (an : Option Addr) (cdv ct : Value) (us : List Value), us.length = ps.length → bindArgs (PySem.W.fnOf x qual (defArgs st) (defBody st) (defScope st) .none kV doc pm an cdv ct) ⟨us, []⟩ = pure (ps.zip us)
abbrev Body (P : Program) (w : World) (K : PySem.W.Frag) (mg : Str → Option Value) (base : Heap) (N : List Str) (qual : Str) (st : Stmt) (k : Nat) (f : Addr) (sp : Sp) : Prop :=
  ∀ (cdv : Value) (A : Around) (outer : List Env) (s : Shared) (H : Hp) (vs : List V) (Q : VK) (E : XK), Room k (A.deeper (envOfC qual (defScope st) s.heap.objs.size f cdv)) → sp vs H Q E →
      ∃ t, PSs (cxOf C8.CX0 P w K mg base N qual (defScope st) f cdv A outer s H E).nox (defBody st) t ∧ t { nx := fun _ H' => Q .non H', rt := Q } (start N vs) H
theorem calD (F : FnP K x x st f) (hm : mg x = some (.ref f)) (S : FnScope N ps (defScope st)) (b : BindOk x x st ps) (len : ∀ vs H Q E, sp vs H Q E → vs.length = ps.length) (body : Body P w K mg base N x st k f sp) : C8.Cal P w K mg base (k + 1) x sp [] := by
  obtain ⟨fd, F⟩ := F
  exact ⟨f, fd, ps, [], F.ok S len (fun cdv A outer s H vs Q E hr h => (body cdv A outer s H vs Q E hr h).imp fun t ⟨h1, h2⟩ => ⟨h1.nox, h2⟩), hm, F.kp, F.bindsN b, .nil⟩
theorem metD (c : Cls K C) (hm : Meth K C m f) (F : FnP K m qual st f) (S : FnScope N ps (defScope st)) (b : BindOk m qual st ps) (len : ∀ vs H Q E, sp vs H Q E → vs.length = ps.length) (body : Body P w K mg base N qual st k f sp) : C8.Met P w K mg base (k + 1) C m sp [] := by
  obtain ⟨fd, F⟩ := F
  exact ⟨f, fd, ps, [], c, hm, F.ok S len (fun cdv A outer s H vs Q E hr h => (body cdv A outer s H vs Q E hr h).imp fun t ⟨h1, h2⟩ => ⟨h1.nox, h2⟩), F.bindsN b, .nil⟩
theorem makD (M : Mk K C f) (hm : mg x = some (.ref C)) (F : FnP K "__init__" qual st f) (S : FnScope N ps (defScope st)) (b : BindOk "__init__" qual st ps) (len : ∀ vs H Q E, sp vs H Q E → vs.length = ps.length) (body : Body P w K mg base N qual st k f sp) : C8.Mak P w K mg base (k + 1) x C sp [] := by
  obtain ⟨fd, F⟩ := F
  exact ⟨f, fd, ps, [], M, F.ok S len (fun cdv A outer s H vs Q E hr h => (body cdv A outer s H vs Q E hr h).imp fun t ⟨h1, h2⟩ => ⟨h1.nox, h2⟩), hm, F.bindsN b, .nil⟩
end
end K42
set_option maxRecDepth 100000
set_option maxHeartbeats 0
namespace K42
open PySem PySem.Spec PyProof.Rows L2
/-! ### the head -/
abbrev Rw : PySem.W.OpenRow := PySem.W.OpenLaw.row PySem.Challenge.rw_askedfor_k42_whole_state
abbrev hk : PySem.W.Hook := He.hookX 5 fa fn ts [] ex
def ob (s : PySem.W.SharedT) : He.AlX := He.obsX 5 fa fn ts [] ex (HandSHeadRun.getT s)
theorem ob_eq (s : PySem.W.SharedT) : ob s = hk.obs s.abs := He.obsX_eq (HandSHeadRun.getT_eq s)
def loose0 : List PySem.Str := ["LEAVES_trees", "parts", "with_parts", "bound_names", "collect_free", "free_names", "put_in", "UNIT_plain", "HALF", "operated", "is_value", "shape", "quoted", "Run", "run_plain", "UNIT_machine", "Stop", "looked_up", "calculated", "value_shape", "Machine", "run_counted", "run_machine", "BOTTOM", "HANDLER", "PLACE", "UNIT_runner", "Piece", "Runner", "run_kept"]
def loose1 : List PySem.Str := ["run_code", "answers", "answers_at_once", "LEAVES_code", "Code", "answer_of", "Compiler", "compile_expression", "_law_state", "_law_take", "_law_state_clauses", "_law_roads", "_law_cut", "_law_deed"]
def nms : List PySem.Str := loose0 ++ loose1
theorem run0 (w : World) : HandSHeadRun.RunEq Rw (PySem.W.view Rw.prog [51]) hk ob 6000 nms (w.withFollow "special-get-raises" false) := by
  intro os
  kernel_rfl
theorem run1 (w : World) : HandSHeadRun.RunEq Rw (PySem.W.view Rw.prog [51]) hk ob 6000 nms (w.withFollow "special-get-raises" true) := by
  intro os
  kernel_rfl
theorem run (w : World) : HandSHeadRun.RunEq Rw (PySem.W.view Rw.prog [51]) hk ob 6000 nms w := PySem.W.byRow2 "special-get-raises" (P := fun w => HandSHeadRun.RunEq Rw (PySem.W.view Rw.prog [51]) hk ob 6000 nms w) run0 run1 w
end K42
set_option maxRecDepth 100000
set_option maxHeartbeats 400000
namespace K42
open PySem PySem.Spec PyProof.Rows L2
/-! ### the plain road: its states and steps -/
def cut (n : Int) : Int := (n + 2147483648) % (2 * 2147483648) - 2147483648
abbrev vnum (i : Int) : D := .tup [.str "num", .int i]
abbrev vflag (b : Bool) : D := .tup [.str "flag", .bl b]
def opd : Sg → Int → Int → D
  | .lt, i, j => vflag (decide (i < j))
  | .add, i, j => vnum (cut (i + j))
  | .sub, i, j => vnum (cut (i - j))
  | .mul, i, j => vnum (cut (i * j))
abbrev kept (ks : List D) : D := .tup [.str "kept", .tup ks.reverse]
abbrev fCall (e : D) : D := .tup [.str "call", e]
abbrev fCall2 (v : D) : D := .tup [.str "call2", v]
abbrev fPair (e : D) : D := .tup [.str "pair", e]
abbrev fPair2 (v : D) : D := .tup [.str "pair2", v]
abbrev fLet (x : Nm) (e : D) : D := .tup [.str "let", .str x.str, e]
abbrev fOp (s : Sg) (e : D) : D := .tup [.str "op", .str s.str, e]
abbrev fOp2 (s : Sg) (v : D) : D := .tup [.str "op2", .str s.str, v]
abbrev fAsk (o : Op) : D := .tup [.str "ask", .str o.str]
abbrev fIf (a b : D) : D := .tup [.str "if", a, b]
abbrev fPrint (e : D) : D := .tup [.str "print", e]
/-- a handler: the return clause, the two clauses -/
structure Hd where
  x : Nm
  e : E
  u : Nm
  g : E
  n : Nm
  p : E
abbrev Hd.ret (h : Hd) : D := .tup [.str h.x.str, h.e.d]
abbrev Hd.cls (h : Hd) : D := .tup [.tup [.str "get", .str h.u.str, .str "k", h.g.d], .tup [.str "put", .str h.n.str, .str "k", h.p.d]]
abbrev fHandle (h : Hd) : D := .tup [.str "handle", h.ret, h.cls]
/-- the clause's parameter and body -/
def Hd.at (h : Hd) : Op → Nm × E
  | .get => (h.u, h.g)
  | .put => (h.n, h.p)
structure PSt where
  cur : D
  frs : List D
  left : Int
  prints : List Int
/-- no handler's frame -/
def NoH (f : D) : Prop := ∃ s l, f = .tup (.str s :: l) ∧ decide (V.str s = V.str "handle") = false
inductive PBeg : PSt → PSt → Prop
  | quoted {d fs l p} : PBeg ⟨(E.quoted d).d, fs, l, p⟩ ⟨d, fs, l, p⟩
  | lt {x e f fs l p} : fs.length ≤ 1000 → PBeg ⟨(E.lt x e f).d, fs, l, p⟩ ⟨e.d, fLet x f.d :: fs, l, p⟩
  | op {s e f fs l p} : fs.length ≤ 1000 → PBeg ⟨(E.op s e f).d, fs, l, p⟩ ⟨e.d, fOp s f.d :: fs, l, p⟩
  | ask {o e fs l p} : fs.length ≤ 1000 → PBeg ⟨(E.ask o e).d, fs, l, p⟩ ⟨e.d, fAsk o :: fs, l, p⟩
  | call {f e fs l p} : fs.length ≤ 1000 → PBeg ⟨(E.call f e).d, fs, l, p⟩ ⟨f.d, fCall e.d :: fs, l, p⟩
  | callD {f e fs l p} : fs.length ≤ 1000 → PBeg ⟨.tup [.str "call", f, e], fs, l, p⟩ ⟨f, fCall e :: fs, l, p⟩
  | ite {e f g fs l p} : fs.length ≤ 1000 → PBeg ⟨(E.ite e f g).d, fs, l, p⟩ ⟨e.d, fIf f.d g.d :: fs, l, p⟩
  | print {e f fs l p} : fs.length ≤ 1000 → PBeg ⟨(E.print e f).d, fs, l, p⟩ ⟨e.d, fPrint f.d :: fs, l, p⟩
  | pair {e f fs l p} : fs.length ≤ 1000 → PBeg ⟨(E.pair e f).d, fs, l, p⟩ ⟨e.d, fPair f.d :: fs, l, p⟩
  | handle {e h fs l p} : fs.length ≤ 1000 → PBeg ⟨.tup [.str "handle", e, Hd.ret h, Hd.cls h], fs, l, p⟩ ⟨e, fHandle h :: fs, l, p⟩
inductive PGo : PSt → PSt → Prop
  | call {e v fs l p} : fs.length ≤ 1000 → PGo ⟨v, fCall e :: fs, l, p⟩ ⟨e, fCall2 v :: fs, l, p⟩
  | pair {e v fs l p} : fs.length ≤ 1000 → PGo ⟨v, fPair e :: fs, l, p⟩ ⟨e, fPair2 v :: fs, l, p⟩
  | op {s e v fs l p} : fs.length ≤ 1000 → PGo ⟨v, fOp s e :: fs, l, p⟩ ⟨e, fOp2 s v :: fs, l, p⟩
  | pair2 {u v fs l p} : PGo ⟨v, fPair2 u :: fs, l, p⟩ ⟨.tup [.str "pair", u, v], fs, l, p⟩
  | callFn {x e v fs l p} : 0 < l → e.dep ≤ 40 → PGo ⟨v, fCall2 (E.fn x e).d :: fs, l, p⟩ ⟨(e.put x v).d, fs, l - 1, p⟩
  | callRc {h x e v fs l p} : 0 < l → e.dep ≤ 40 → PGo ⟨v, fCall2 (E.rc h x e).d :: fs, l, p⟩ ⟨((e.put x v).put h (E.rc h x e).d).d, fs, l - 1, p⟩
  | callK {ks v fs l p} : 0 < l → ks.length + fs.length ≤ 1000 → PGo ⟨v, fCall2 (kept ks) :: fs, l, p⟩ ⟨v, ks ++ fs, l - 1, p⟩
  | op2 {s i j fs l p} : (s = .mul → CMul i j) → PGo ⟨vnum j, fOp2 s (vnum i) :: fs, l, p⟩ ⟨opd s i j, fs, l, p⟩
  | lt {x f v fs l p} : f.dep ≤ 40 → PGo ⟨v, fLet x (E.d f) :: fs, l, p⟩ ⟨(f.put x v).d, fs, l, p⟩
  | ite {b f g fs l p} : PGo ⟨vflag b, fIf f g :: fs, l, p⟩ ⟨if b then f else g, fs, l, p⟩
  | print {e i fs l p} : p.length ≤ 1000 → PGo ⟨vnum i, fPrint e :: fs, l, p⟩ ⟨e, fs, l, p ++ [i]⟩
  | ask {o v ks h fs l p} : 0 < l → (∀ f ∈ ks, NoH f) → ks.length + fs.length ≤ 1000 → (Hd.at h o).1 ≠ .k → (Hd.at h o).2.dep ≤ 40 →
      PGo ⟨v, fAsk o :: (ks ++ fHandle h :: fs), l, p⟩ ⟨(((Hd.at h o).2.put (Hd.at h o).1 v).put .k (kept (ks ++ [fHandle h]))).d, fs, l - 1, p⟩
  | handle {h v fs l p} : (Hd.e h).dep ≤ 40 → PGo ⟨v, fHandle h :: fs, l, p⟩ ⟨(h.e.put h.x v).d, fs, l, p⟩
/-- what is a value -/
inductive IsV : D → Bool → Prop
  | num (i : Int) : IsV (vnum i) true
  | flag (b : Bool) : IsV (vflag b) true
  | unit : IsV E.unit.d true
  | fn (x : Nm) (e : E) : IsV (E.fn x e).d true
  | rc (h x : Nm) (e : E) : IsV (E.rc h x e).d true
  | kept (l : List D) : IsV (.tup [.str "kept", .tup l]) true
  | call (f e : D) : IsV (.tup [.str "call", f, e]) false
  | lt (x : Nm) (e f : E) : IsV (E.lt x e f).d false
  | ite (e f g : E) : IsV (E.ite e f g).d false
  | op (s : Sg) (e f : E) : IsV (E.op s e f).d false
  | print (e f : E) : IsV (E.print e f).d false
  | ask (o : Op) (e : E) : IsV (E.ask o e).d false
  | quoted (d : D) : IsV (E.quoted d).d false
  | handle (a b c : D) : IsV (.tup [.str "handle", a, b, c]) false
  | pairQ (d : D) (f : D) : IsV (.tup [.str "pair", (E.quoted d).d, f]) false
  | pairV (i j : Int) : IsV (.tup [.str "pair", vnum i, vnum j]) true
inductive PStep : PSt → PSt → Prop
  | beg {s t} : IsV s.cur false → PBeg s t → PStep s t
  | go {s t} : IsV s.cur true → PGo s t → PStep s t
/-- n steps, then the last one: a value and no frame -/
inductive PRun : Nat → PSt → Int → Int → List Int → Prop
  | done {i j l p} : PRun 0 ⟨.tup [.str "pair", vnum i, vnum j], [], l, p⟩ i j p
  | step {n s t i j p} : PStep s t → PRun n t i j p → PRun (n + 1) s i j p
theorem E.put_dep (x : Nm) (d : D) : ∀ e : E, (e.put x d).dep = e.dep
  | .num _ | .unit | .quoted _ => rfl
  | .name y => by
    show (if y = x then E.quoted d else .name y).dep = 1
    split <;> rfl
  | .call f e => by simp [E.put, E.dep, E.put_dep x d f, E.put_dep x d e]
  | .pair f e => by simp [E.put, E.dep, E.put_dep x d f, E.put_dep x d e]
  | .op _ f e => by simp [E.put, E.dep, E.put_dep x d f, E.put_dep x d e]
  | .print f e => by simp [E.put, E.dep, E.put_dep x d f, E.put_dep x d e]
  | .ask _ e => by simp [E.put, E.dep, E.put_dep x d e]
  | .ite e f g => by simp [E.put, E.dep, E.put_dep x d e, E.put_dep x d f, E.put_dep x d g]
  | .fn y e => by
    show (if x = y then E.fn y e else .fn y (e.put x d)).dep = e.dep + 1
    split <;> simp [E.dep, E.put_dep x d e]
  | .rc h y e => by
    show (if x = h ∨ x = y then E.rc h y e else .rc h y (e.put x d)).dep = e.dep + 1
    split <;> simp [E.dep, E.put_dep x d e]
  | .lt y e f => by
    show (E.lt y (e.put x d) (if x = y then f else f.put x d)).dep = max e.dep f.dep + 1
    simp only [E.dep, E.put_dep x d e]
    split <;> simp [E.put_dep x d f]
/-! ### the object Run -/
abbrev cRun (K : PySem.W.Frag) : Addr := He.ga K "Run"
abbrev runF (vc vf vl vp ve : V) : List (Str × V) := [("current", vc), ("frames", vf), ("left", vl), ("prints", vp), ("end", ve)]
structure RunAt (K : PySem.W.Frag) (H : Hp) (x : Addr) (s : PSt) (dx lf lp : Addr) (vc ve : V) (vfs : List V) : Prop where
  obj : H x = some (.ins (cRun K) dx (runF vc (.ref lf) (.int s.left) (.ref lp) ve))
  fr : H lf = some (.lst vfs.reverse)
  pr : H lp = some (.lst (s.prints.map V.int))
  ne : lf ≠ lp
  c : Rep K H s.cur vc
  f : Reps K H s.frs vfs
def RunS (K : PySem.W.Frag) (H : Hp) (x : Addr) (s : PSt) : Prop := ∃ dx lf lp vc vfs, RunAt K H x s dx lf lp vc .non vfs
/-- a call's step: function, argument -/
inductive PCall : D → D → PSt → PSt → Prop
  | fn {x e v c fs l p} : e.dep ≤ 40 → PCall (E.fn x e).d v ⟨c, fs, l, p⟩ ⟨(e.put x v).d, fs, l - 1, p⟩
  | rc {h x e v c fs l p} : e.dep ≤ 40 → PCall (E.rc h x e).d v ⟨c, fs, l, p⟩ ⟨((e.put x v).put h (E.rc h x e).d).d, fs, l - 1, p⟩
  | kp {ks v c fs l p} : ks.length + fs.length ≤ 1000 → PCall (kept ks) v ⟨c, fs, l, p⟩ ⟨v, ks ++ fs, l - 1, p⟩
abbrev Hd.clause (h : Hd) (o : Op) : D := .tup [.str o.str, .str (h.at o).1.str, .str "k", (h.at o).2.d]
theorem RunS.mk {K : PySem.W.Frag} {H : Hp} {x : Addr} {s : PSt} {dx lf lp : Addr} {vc : V} {vfs : List V} (o : H x = some (.ins (cRun K) dx (runF vc (.ref lf) (.int s.left) (.ref lp) .non)))
    (f : H lf = some (.lst vfs.reverse)) (p : H lp = some (.lst (s.prints.map V.int))) (ne : lf ≠ lp) (c : Rep K H s.cur vc) (r : Reps K H s.frs vfs) : RunS K H x s := ⟨dx, lf, lp, vc, vfs, o, f, p, ne, c, r⟩
end K42
set_option maxRecDepth 100000
set_option maxHeartbeats 400000
namespace K42
open PySem PySem.Spec PyProof.Rows L2
/-! ### the machine's road: its states and steps -/
abbrev vi (i : Int) : D := .tup [.str "int", .int i]
abbrev vb (b : Bool) : D := .tup [.str "bool", .bl b]
abbrev vu : D := .tup [.str "unit"]
def mopd : Sg → Int → Int → D
  | .lt, i, j => vb (decide (i < j))
  | .add, i, j => vi (cut (i + j))
  | .sub, i, j => vi (cut (i - j))
  | .mul, i, j => vi (cut (i * j))
abbrev mfn (h : D) (x : Nm) (e env : D) : D := .tup [.str "fun", h, .str x.str, e, env]
abbrev bnd1 (x : Nm) (v env : D) : D := .tup [.str x.str, v, env]
abbrev mF (s : Str) (w env : D) : D := .tup [.str s, w, env]
abbrev mHd (h : Hd) (env : D) : D := .tup [.str h.x.str, h.e.d, Hd.cls h, env]
abbrev mkept (h : Hd) (env : D) (fs : List D) : D := .tup [.str "kept", .tup [.tup [mHd h env, .tup fs.reverse]]]
structure MO where
  hd : D
  fs : List D
  low : Option (List D)
  left : Int
  prints : List Int
structure L3 where
  c : D
  env : D
  v : D
abbrev L3.d (r : L3) : D := .tup [r.c, r.env, r.v]
abbrev ev (c env : D) : L3 := ⟨c, env, .non⟩
abbrev rv (v : D) : L3 := ⟨.non, .non, v⟩
inductive Look : Nat → D → Nm → D → Prop
  | here {x v env} : Look 0 (bnd1 x v env) x v
  | there {n x y u env v} : y ≠ x → Look n env x v → Look (n + 1) (bnd1 y u env) x v
inductive MBeg : D → D → MO → L3 → MO → Prop
  | num {i env s} : MBeg (.tup [.str "num", .int i]) env s (rv (vi i)) s
  | unit {env s} : MBeg (.tup [.str "unit"]) env s (rv vu) s
  | name {n x env v s} : Look n env x v → MBeg (.tup [.str "name", .str (Nm.str x)]) env s (rv v) s
  | fn {x e env s} : MBeg (.tup [.str "fun", .str (Nm.str x), e]) env s (rv (mfn .non x e env)) s
  | rc {h x e env s} : MBeg (.tup [.str "rec", .str (Nm.str h), .str (Nm.str x), e]) env s (rv (mfn (.str (Nm.str h)) x e env)) s
  | handle {e h env fs l p} : MBeg (.tup [.str "handle", e, Hd.ret h, Hd.cls h]) env ⟨.non, fs, none, l, p⟩ (ev e env) ⟨mHd h env, [], some fs, l, p⟩
  | lt {x e f env hd fs lo l p} : fs.length ≤ 1000 → MBeg (.tup [.str "let", .str (Nm.str x), e, f]) env ⟨hd, fs, lo, l, p⟩ (ev e env) ⟨hd, mF "let" (.tup [.str "let", .str (Nm.str x), e, f]) env :: fs, lo, l, p⟩
  | op {o e f env hd fs lo l p} : fs.length ≤ 1000 → MBeg (.tup [.str "op", .str (Sg.str o), e, f]) env ⟨hd, fs, lo, l, p⟩ (ev e env) ⟨hd, mF "op" (.tup [.str "op", .str (Sg.str o), e, f]) env :: fs, lo, l, p⟩
  | ask {o e env hd fs lo l p} : fs.length ≤ 1000 → MBeg (.tup [.str "ask", .str (Op.str o), e]) env ⟨hd, fs, lo, l, p⟩ (ev e env) ⟨hd, mF "ask" (.tup [.str "ask", .str (Op.str o), e]) env :: fs, lo, l, p⟩
  | call {e f env hd fs lo l p} : fs.length ≤ 1000 → MBeg (.tup [.str "call", e, f]) env ⟨hd, fs, lo, l, p⟩ (ev e env) ⟨hd, mF "call" (.tup [.str "call", e, f]) env :: fs, lo, l, p⟩
  | ite {e f g env hd fs lo l p} : fs.length ≤ 1000 → MBeg (.tup [.str "if", e, f, g]) env ⟨hd, fs, lo, l, p⟩ (ev e env) ⟨hd, mF "if" (.tup [.str "if", e, f, g]) env :: fs, lo, l, p⟩
  | print {e f env hd fs lo l p} : fs.length ≤ 1000 → MBeg (.tup [.str "print", e, f]) env ⟨hd, fs, lo, l, p⟩ (ev e env) ⟨hd, mF "print" (.tup [.str "print", e, f]) env :: fs, lo, l, p⟩
  | pair {e f env hd fs lo l p} : fs.length ≤ 1000 → MBeg (.tup [.str "pair", e, f]) env ⟨hd, fs, lo, l, p⟩ (ev e env) ⟨hd, mF "pair" (.tup [.str "pair", e, f]) env :: fs, lo, l, p⟩
inductive MCall : D → D → MO → L3 → MO → Prop
  | fn {x e env a hd fs lo l p} : 0 < l → MCall (mfn .non x e env) a ⟨hd, fs, lo, l, p⟩ (ev e (bnd1 x a env)) ⟨hd, fs, lo, l - 1, p⟩
  | rc {h x e env a hd fs lo l p} : 0 < l → MCall (mfn (.str (Nm.str h)) x e env) a ⟨hd, fs, lo, l, p⟩ (ev e (bnd1 x a (bnd1 h (mfn (.str (Nm.str h)) x e env) env))) ⟨hd, fs, lo, l - 1, p⟩
  | kp {h env ks a fs l p} : 0 < l → MCall (mkept h env ks) a ⟨.non, fs, none, l, p⟩ (rv a) ⟨mHd h env, ks, some fs, l - 1, p⟩
inductive MRes : D → D → MO → L3 → MO → Prop
  | call {f e env v hd fs lo l p} : fs.length ≤ 1000 → MRes (mF "call" (.tup [.str "call", f, e]) env) v ⟨hd, fs, lo, l, p⟩ (ev e env) ⟨hd, fCall2 v :: fs, lo, l, p⟩
  | pair {f e env v hd fs lo l p} : fs.length ≤ 1000 → MRes (mF "pair" (.tup [.str "pair", f, e]) env) v ⟨hd, fs, lo, l, p⟩ (ev e env) ⟨hd, fPair2 v :: fs, lo, l, p⟩
  | op {o e f env v hd fs lo l p} : fs.length ≤ 1000 → MRes (mF "op" (.tup [.str "op", .str (Sg.str o), e, f]) env) v ⟨hd, fs, lo, l, p⟩ (ev f env) ⟨hd, fOp2 o v :: fs, lo, l, p⟩
  | pair2 {u v s} : MRes (fPair2 u) v s (rv (.tup [.str "pair", u, v])) s
  | op2 {o i j s} : CMul i j → MRes (fOp2 o (vi i)) (vi j) s (rv (mopd o i j)) s
  | call2 {f v s r t} : MCall f v s r t → MRes (fCall2 f) v s r t
  | lt {x e f env v s} : MRes (mF "let" (.tup [.str "let", .str (Nm.str x), e, f]) env) v s (ev f (bnd1 x v env)) s
  | ite {b e f g env s} : MRes (mF "if" (.tup [.str "if", e, f, g]) env) (vb b) s (ev (if b then f else g) env) s
  | print {i e f env hd fs lo l p} : p.length ≤ 1000 → MRes (mF "print" (.tup [.str "print", e, f]) env) (vi i) ⟨hd, fs, lo, l, p⟩ (ev f env) ⟨hd, fs, lo, l, p ++ [i]⟩
  | ask {o e env h env' v fs fs0 l p} : 0 < l → MRes (mF "ask" (.tup [.str "ask", .str (Op.str o), e]) env) v ⟨mHd h env', fs, some fs0, l, p⟩
      (ev (Hd.at h o).2.d (bnd1 .k (mkept h env' fs) (bnd1 (Hd.at h o).1 v env'))) ⟨.non, fs0, none, l - 1, p⟩
inductive MStep : L3 → MO → L3 → MO → Prop
  | beg {c env s r t} : MBeg (.tup c) env s r t → MStep (ev (.tup c) env) s r t
  | res {f v hd fs lo l p r t} : MRes f v ⟨hd, fs, lo, l, p⟩ r t → MStep (rv v) ⟨hd, f :: fs, lo, l, p⟩ r t
  | hdl {h env fs l p v} : MStep (rv v) ⟨mHd h env, [], some fs, l, p⟩ (ev h.e.d (bnd1 h.x v env)) ⟨.non, fs, none, l, p⟩
inductive MRun : Nat → L3 → MO → D → List Int → Prop
  | done {v l p} : MRun 0 (rv v) ⟨.non, [], none, l, p⟩ v p
  | step {n a s b t v p} : MStep a s b t → MRun n b t v p → MRun (n + 1) a s v p
/-! ### the object Machine -/
abbrev cMac (K : PySem.W.Frag) : Addr := He.ga K "Machine"
abbrev macF (l : Int) (lp lq : Addr) (k m : Int) : List (Str × V) := [("left", .int l), ("prints", .ref lp), ("pieces", .ref lq), ("kept", .int k), ("most", .int m)]
def LowAt (K : PySem.W.Frag) (H : Hp) (lf lq lp : Addr) : Option (List D) → List V → Prop
  | none, pre => pre = []
  | some fs, pre => ∃ t l vs, pre = [.ref t] ∧ SqT K H t [.non, .ref l] ∧ H l = some (.lst vs.reverse) ∧ Reps K H fs vs ∧ l ≠ lf ∧ l ≠ lq ∧ l ≠ lp
structure MachAt (K : PySem.W.Frag) (H : Hp) (x : Addr) (s : MO) (dx lp lq lf vp : Addr) (vh : V) (vfs pre : List V) (k m : Int) : Prop where
  obj : H x = some (.ins (cMac K) dx (macF s.left lp lq k m))
  pr : H lp = some (.lst (s.prints.map V.int))
  pc : H lq = some (.lst (pre ++ [.ref vp]))
  tp : SqT K H vp [vh, .ref lf]
  fr : H lf = some (.lst vfs.reverse)
  h : Rep K H s.hd vh
  f : Reps K H s.fs vfs
  n1 : lf ≠ lq
  n2 : lf ≠ lp
  n3 : lq ≠ lp
  lo : LowAt K H lf lq lp s.low pre
def MachS (K : PySem.W.Frag) (H : Hp) (x : Addr) (s : MO) : Prop := ∃ dx lp lq lf vp vh vfs pre k m, MachAt K H x s dx lp lq lf vp vh vfs pre k m
theorem MachS.mk {K : PySem.W.Frag} {H : Hp} {x : Addr} {s : MO} {dx lp lq lf vp : Addr} {vh : V} {vfs pre : List V} {k m : Int} (a : H x = some (.ins (cMac K) dx (macF s.left lp lq k m))) (b : H lp = some (.lst (s.prints.map V.int))) (c : H lq = some (.lst (pre ++ [.ref vp])))
    (d : SqT K H vp [vh, .ref lf]) (e : H lf = some (.lst vfs.reverse)) (f : Rep K H s.hd vh) (g : Reps K H s.fs vfs) (n1 : lf ≠ lq) (n2 : lf ≠ lp) (n3 : lq ≠ lp) (lo : LowAt K H lf lq lp s.low pre) : MachS K H x s := ⟨dx, lp, lq, lf, vp, vh, vfs, pre, k, m, a, b, c, d, e, f, g, n1, n2, n3, lo⟩
theorem LowAt.mono {K : PySem.W.Frag} {H H' : Hp} {lf lq lp : Addr} {o : Option (List D)} {pre : List V} (le : Le K H H') (hk : ∀ l v, H l = some (.lst v) → l ≠ lf → l ≠ lq → l ≠ lp → H' l = some (.lst v)) (h : LowAt K H lf lq lp o pre) : LowAt K H' lf lq lp o pre := by
  cases o with
  | none => exact h
  | some fs =>
    obtain ⟨t, l, vs, e, a, b, c, n1, n2, n3⟩ := h
    exact ⟨t, l, vs, e, le _ _ a, hk _ _ b n1 n2 n3, c.mono le, n1, n2, n3⟩
theorem MachS.same {K : PySem.W.Frag} {H H' : Hp} {x : Addr} {s : MO} (h : Same H H') : MachS K H x s → MachS K H' x s := fun ⟨dx, lp, lq, lf, vp, vh, vfs, pre, k, m, ⟨a1, a2, a3, a4, a5, a6, a7, a8, a9, a10, a11⟩⟩ =>
  ⟨dx, lp, lq, lf, vp, vh, vfs, pre, k, m, ⟨h _ _ a1, h _ _ a2, h _ _ a3, Le.same h _ _ a4, h _ _ a5, a6.mono (Le.same h), a7.mono (Le.same h), a8, a9, a10, a11.mono (Le.same h) fun l v e _ _ _ => h _ _ e⟩⟩
/-- the pieces' last item -/
theorem pre_len {K : PySem.W.Frag} {H : Hp} {lf lq lp : Addr} {o : Option (List D)} {pre : List V} (h : LowAt K H lf lq lp o pre) : pre.length ≤ 1 := by
  cases o with
  | none => rw [show pre = [] from h]; exact Nat.zero_le _
  | some fs =>
    obtain ⟨t, l, vs, e, _⟩ := h
    rw [e]
    exact Nat.le_refl _
/-! ### rules in a comprehension's block: K is the module's -/
section
variable {X : Cx} {K : PySem.W.Frag}
theorem ix_2B (h : X.K = K) : IxR X (rIx2 K) := h ▸ ix_2
theorem call_tupOfB (h : X.K = K) : CallR X (.type "tuple") (rTupOf K) := h ▸ call_tupOf
theorem call_listOfB (h : X.K = K) : CallR X (.type "list") (rListOf K) := h ▸ call_listOf
theorem pg_tupB {es : List Expr} {k : Nat} {t : TGs} {n : Nat} {pos : Pos} (h0 : X.K = K) (hc : X.calm = true) (h : PGs X es t)
    (hn : (assignEach es X.env).length = n := by rfl) (hst : (assignEach es X.env).findIdx? (·.1) = none := by rfl) : PG X (.Tuple es k pos) (gTup K n t) := h0 ▸ pg_tup hc h hn hst
end
/-! ### a method with a star parameter -/
theorem bindV3 {fd : FuncData} {pa pv : Str} (h0 : ∀ u, bindArgs fd ⟨[u], []⟩ = (newTuple [] >>= fun t => pure [(pa, u), (pv, t)])) (h1 : ∀ u a, bindArgs fd ⟨[u, a], []⟩ = (newTuple [a] >>= fun t => pure [(pa, u), (pv, t)]))
    (h2 : ∀ u a b, bindArgs fd ⟨[u, a, b], []⟩ = (newTuple [a, b] >>= fun t => pure [(pa, u), (pv, t)])) (h3 : ∀ u a b c, bindArgs fd ⟨[u, a, b, c], []⟩ = (newTuple [a, b, c] >>= fun t => pure [(pa, u), (pv, t)])) :
    ∀ (u : Value) (rest : List Value), rest.length ≤ 3 → bindArgs fd ⟨u :: rest, []⟩ = (newTuple rest >>= fun t => pure [(pa, u), (pv, t)])
  | u, [], _ => h0 u
  | u, [a], _ => h1 u a
  | u, [a, b], _ => h2 u a b
  | u, [a, b, c], _ => h3 u a b c
  | _, _ :: _ :: _ :: _ :: r, h => absurd h (by simp only [List.length_cons]; omega)
structure MetV (P : Program) (w : World) (K : PySem.W.Frag) (mg : Str → Option Value) (base : Heap) (k : Nat) (C : Addr) (m : Str) (sp : Sp) : Prop where
  ex : ∃ f : Addr, Cls K C ∧ Meth K C m f ∧ FnR P w K mg base C8.CX0 k f sp
theorem cx0_new : CXNew C8.CX0 := fun _ _ _ _ _ _ _ _ _ _ _ _ h => h
def starSp (sp : Sp) : Sp := fun vs H Q E => ∃ v rest, vs = v :: rest ∧ rest.length ≤ 3 ∧ ∀ p, H p = none → sp [v, .ref p] (upd H p (.tup rest)) Q E
section
variable {P : Program} {w : World} {K : PySem.W.Frag} {mg : Str → Option Value} {base : Heap} {m qual : Str} {st : Stmt} {f C : Addr} {N : List Str} {pa pv : Str} {k j : Nat} {sp : Sp}
theorem metV (c : Cls K C) (hm : Meth K C m f) (F : FnP K m qual st f) (S : FnScope N [pa, pv] (defScope st))
    (hb : ∀ (kV doc pm : Value) (an : Option Addr) (cdv ct : Value) (u : Value) (rest : List Value), rest.length ≤ 3 → bindArgs (PySem.W.fnOf m qual (defArgs st) (defBody st) (defScope st) .none kV doc pm an cdv ct) ⟨u :: rest, []⟩ = (newTuple rest >>= fun t => pure [(pa, u), (pv, t)]))
    (body : Body P w K mg base N qual st k f sp) : MetV P w K mg base (k + 1) C m (starSp sp) := by
  obtain ⟨fd, F⟩ := F
  obtain ⟨oc, od, dV, kV, doc, pm, an, cdv, ct, osl, rfl, lk, hcd, hD, _⟩ := F.ex
  obtain rfl : dV = .none := by
    rcases hD with ⟨_, e⟩ | ⟨e, _⟩
    · exact e
    · exact absurd rfl e
  exact ⟨f, c, hm, fn_ofV lk hcd S (by decide) (hb _ _ _ _ _ _) cx0_new fun A outer s H vs Q E hr h => (body cdv A outer s H vs Q E hr h).imp fun t ⟨h1, h2⟩ => ⟨h1.nox, h2⟩⟩
theorem pe_mv {X : Cx} {o e : Expr} {es : List Expr} {ta : TE} {t : TA} {apos pos : Pos} {pl : Sem Bool} (c : MetV X.prog X.w X.K X.mg X.base k C m sp) (hr : Room j X.A) (hk : k ≤ j) (he : PE X o ta) (ha : PA X (e :: es) t)
    (hst : starEach (e :: es) X.env = (false, eval e X.env) :: starEach es X.env := by rfl) (hpl : (backTo pos (starEach es X.env)).any (·.1) = false := by rfl)
    (ht : eval (.Call (.Attribute o m apos) (e :: es) [] pos) X.env = (do
      let ov ← eval o X.env
      standAt apos.atName
      let (f, first) ← holding [ov] (getMethod ov m pl)
      callWith pos f first (backTo pos (starEach (e :: es) X.env)) (backToKw pos (keywordEach [] X.env))) := by rfl) :
    PE X (.Call (.Attribute o m apos) (e :: es) [] pos) (tMethR C m sp C8.E0 ta t) := by
  obtain ⟨f, hc, hm, F⟩ := c.ex
  exact pe_methR he hc hm F (hr.mono hk) C8.pass0 ha hst hpl ht
end
section
variable {K : PySem.W.Frag} {a Dl : Addr} {x : V} {H H1 : Hp} {σ : L2.St} {Q : VK}
theorem w_methR {C : Addr} {m : Str} {sp : Sp} {E : XK} {te : TE} {tas : TA} (h : te σ H fun x H1 => ∃ a dx fs, x = .ref a ∧ H1 a = some (.ins C dx fs) ∧ fs.lookup m = none ∧ tas σ H1 fun vs H2 => sp (x :: vs) H2 Q E) : tMethR C m sp E te tas σ H Q := h
theorem w_pcons {tk tv : TE} {r : List (TE × TE)} {Q : List (V × V) → Hp → Prop} (h : tk σ H fun x H1 => tv σ H1 fun y H2 => tPairs r σ H2 fun ps H3 => Q ((x, y) :: ps) H3) : tPairs ((tk, tv) :: r) σ H Q := h
theorem w_pnil {Q : List (V × V) → Hp → Prop} (h : Q [] H) : tPairs [] σ H Q := h
theorem w_dget {td ty : TE} (h : td σ H fun x H1 => ty σ H1 fun y H2 => ∃ a v, x = .ref a ∧ DGet H2 a y (some v) ∧ Q v H2) : tDGet td ty σ H Q := h
theorem w_par {i j : Nat} {ta : TA} {D : Ends} (h : ta σ H fun vs H1 => ∃ v w, vs = [v, w] ∧ D.nx ((σ.set i (some v)).set j (some w)) H1) : tPar i j ta D σ H := h
theorem w_par' {P : V → V → Prop} {v w : V} (h : P v w) : ∃ v' w', [v, w] = [v', w'] ∧ P v' w' := ⟨v, w, rfl, h⟩
theorem w_par3 {i j l : Nat} {ta : TA} {D : Ends} (h : ta σ H fun vs H1 => ∃ u v w, vs = [u, v, w] ∧ D.nx (((σ.set i (some u)).set j (some v)).set l (some w)) H1) : tPar3 i j l ta D σ H := h
theorem w_par3' {P : V → V → V → Prop} {u v w : V} (h : P u v w) : ∃ u' v' w', [u, v, w] = [u', v', w'] ∧ P u' v' w' := ⟨u, v, w, rfl, h⟩
theorem w_popS {xs : List V} {y : V} {l : Addr} (h : H l = some (.lst (xs ++ [y]))) (k : Q y (upd H l (.lst xs))) : rPop (.ref l) [] H Q := by
  rw [show xs ++ [y] = (y :: xs.reverse).reverse by simp] at h
  rw [show xs = xs.reverse.reverse by simp] at k
  exact w_popR h k
theorem cut_21 {a b : V} : cutV [a, b] none (some 1) = [a] := rfl
/-- a list comprehension over one item -/
theorem lc_one {g : TG} {te : TE} {vs : List Nat} {Qd : Hp → Prop} (hs : SqL K (upd H1 Dl (.lst [])) a [x])
    (h : g x (wipe σ vs) (upd H1 Dl (.lst [])) fun σ2 H2 => wipe σ2 vs = wipe σ vs ∧ te σ2 H2 fun y H4 => ∃ acc, H4 Dl = some (.lst acc) ∧ acc.length < sizeLine ∧ SqL K (upd H4 Dl (.lst (acc ++ [y]))) a [x] ∧ Qd (upd H4 Dl (.lst (acc ++ [y])))) :
    ∃ W : Nat → Nat → Hp → Prop, (∃ m, W 0 m (upd H1 Dl (.lst []))) ∧ ∀ i m H, W i m H →
      ((Itl K a).stop i H ∧ Qd H) ∨ ((Itl K a).go i H ∧ ∃ Nx : Hp → Prop, (∀ H', Nx H' → ∃ m', m' < m ∧ W (i + 1) m' H') ∧ ∀ x H', (Itl K a).yld i H x H' → g x (wipe σ vs) H' fun σ2 H2 => wipe σ2 vs = wipe σ vs ∧ tYes σ2 H2 fun b H3 =>
        if b = true then te σ2 H3 fun y H4 => ∃ acc, H4 Dl = some (.lst acc) ∧ acc.length < sizeLine ∧ Nx (upd H4 Dl (.lst (acc ++ [y]))) else Nx H3) := by
  refine lc_list (xs := [x]) (Qd := Qd) (fun i => match i with | 0 => fun H' => H' = upd H1 Dl (.lst []) | _ + 1 => fun H' => SqL K H' a [x] ∧ Qd H') rfl (fun i H' hi p => ?_) (fun i y H' hi p => ?_) (fun H' p => p.2)
  · match i, p with
    | 0, p => rw [show H' = _ from p]; exact hs
    | _ + 1, p => exact p.1
  · match i, hi, p with
    | 0, hi, p =>
      obtain rfl : x = y := Option.some.inj hi
      rw [show H' = _ from p]
      unfold tYes
      simp only [↓reduceIte]
      exact h
    | _ + 1, hi, _ => exact absurd hi (by simp)
theorem for_one {g : TG} {tb : TS} {D : Ends} (hs : SqT K H a [x])
    (h : g x σ H fun σ2 H2 => tb { D with nx := fun σ' H' => SqT K H' a [x] ∧ D.nx σ' H', ct := fun σ' H' => SqT K H' a [x] ∧ D.nx σ' H', bk := D.nx } σ2 H2) :
    ∃ W : Nat → Nat → L2.St → Hp → Prop, (∃ m, W 0 m σ H) ∧ ∀ i m σ H, W i m σ H →
      ((Itt K a).stop i H ∧ D.nx σ H) ∨ ((Itt K a).go i H ∧ ∃ N : L2.St → Hp → Prop, (∀ σ' H', N σ' H' → ∃ m', m' < m ∧ W (i + 1) m' σ' H') ∧ ∀ x H', (Itt K a).yld i H x H' → g x σ H' fun σ2 H2 => tb { D with nx := N, ct := N, bk := D.nx } σ2 H2) := by
  refine for_tup (xs := [x]) (D := D) (fun i => match i with | 0 => fun σ' H' => σ' = σ ∧ H' = H | _ + 1 => fun σ' H' => SqT K H' a [x] ∧ D.nx σ' H') ⟨rfl, rfl⟩ (fun i σ' H' hi p => ?_) (fun i y σ' H' hi p => ?_) (fun σ' H' p => p.2)
  · match i, p with
    | 0, p => rw [p.2]; exact hs
    | _ + 1, p => exact p.1
  · match i, hi, p with
    | 0, hi, p =>
      obtain rfl : x = y := Option.some.inj hi
      rw [p.1, p.2]
      exact h
    | _ + 1, hi, _ => exact absurd hi (by simp)
end
end K42
set_option maxRecDepth 100000
set_option maxHeartbeats 400000
namespace K42
open PySem PySem.Spec PyProof.Rows L2
/-! ### the compiled road: its states and steps -/
structure Cd where
  bl : Addr
  bs : List (Addr × List D)
  cl : Addr
  gb : Nat
  pb : Nat
def Cd.at (c : Cd) : Op → Nat
  | .get => c.gb
  | .put => c.pb
structure CdAt (K : PySem.W.Frag) (H : Hp) (c : Cd) : Prop where
  bl : H c.bl = some (.lst (c.bs.map fun b => V.ref b.1))
  bs : ∀ b ∈ c.bs, ∃ vs, H b.1 = some (.lst vs) ∧ Reps K H b.2 vs
  cl : ∃ t1 t2, H c.cl = some (.dK [(.inr "get", .ref t1), (.inr "put", .ref t2)]) ∧ SqT K H t1 [.int c.gb, .bl false] ∧ SqT K H t2 [.int c.pb, .bl false]
structure RO where
  ra : Addr
  pc : Nat
  b : D
  ops : List D
  hd : D
  fs : List D
  low : Option (List D)
  left : Int
  prints : List Int
abbrev rF (a : Addr) (i : Nat) (b : D) (ops : List D) : D := .tup [.adr a, .int i, b, .tup ops.reverse]
abbrev rHd (j : Nat) (cl : Addr) (b : D) : D := .tup [.int j, .adr cl, b]
abbrev rfn (i : Nat) (r : Bool) (b : D) : D := .tup [.str "fun", .int i, .bl r, b]
abbrev rkept (hd : D) (fs : List D) : D := .tup [.str "kept", .tup [.tup [.int 1, hd, .tup fs.reverse, .int 0]]]
inductive LookR : Nat → D → D → Prop
  | here {v env} : LookR 0 (.tup [v, env]) v
  | there {n u env v} : LookR n env v → LookR (n + 1) (.tup [u, env]) v
inductive RDel (c : Cd) : D → RO → RO → Prop
  | frame {v a i b ops fs hd lo l p a0 i0 b0 o0} : ops.length ≤ 1000 → RDel c v ⟨a0, i0, b0, o0, hd, rF a i b ops :: fs, lo, l, p⟩ ⟨a, i, b, v :: ops, hd, fs, lo, l, p⟩
  | hdl {v j b fs a rows l p a0 i0 b0 o0} : c.bs[j]? = some (a, rows) → RDel c v ⟨a0, i0, b0, o0, rHd j c.cl b, [], some fs, l, p⟩ ⟨a, 0, .tup [v, b], [], .non, fs, none, l, p⟩
abbrev saved (tl : Bool) (a : Addr) (i : Nat) (b : D) (os fs : List D) : List D := if tl then fs else rF a i b os :: fs
inductive RCall (c : Cd) (tl : Bool) : RO → RO → Prop
  | fn {a0 i0 b0 v i r b os hd fs lo l p a rows} : 0 < l → fs.length ≤ 1000 → c.bs[i]? = some (a, rows) →
      RCall c tl ⟨a0, i0, b0, v :: rfn i r b :: os, hd, fs, lo, l, p⟩ ⟨a, 0, .tup [v, if r then .tup [rfn i r b, b] else b], [], hd, saved tl a0 i0 b0 os fs, lo, l - 1, p⟩
  | kp {a0 i0 b0 v j b2 a i b ops ks os fs l p} : 0 < l → fs.length ≤ 1000 → ops.length ≤ 1000 →
      RCall c tl ⟨a0, i0, b0, v :: rkept (rHd j c.cl b2) (rF a i b ops :: ks) :: os, .non, fs, none, l, p⟩ ⟨a, i, b, v :: ops, rHd j c.cl b2, ks, some (saved tl a0 i0 b0 os fs), l - 1, p⟩
inductive RRow (c : Cd) : D → RO → RO → Prop
  | int {n a i b os hd fs lo l p} : os.length ≤ 1000 → RRow c (vi n) ⟨a, i, b, os, hd, fs, lo, l, p⟩ ⟨a, i, b, vi n :: os, hd, fs, lo, l, p⟩
  | unit {a i b os hd fs lo l p} : os.length ≤ 1000 → RRow c vu ⟨a, i, b, os, hd, fs, lo, l, p⟩ ⟨a, i, b, vu :: os, hd, fs, lo, l, p⟩
  | load {n v a i b os hd fs lo l p} : n ≤ 1000 → LookR n b v → os.length ≤ 1000 → RRow c (.tup [.str "load", .int (n : Nat)]) ⟨a, i, b, os, hd, fs, lo, l, p⟩ ⟨a, i, b, v :: os, hd, fs, lo, l, p⟩
  | close {n r a i b os hd fs lo l p} : os.length ≤ 1000 → RRow c (.tup [.str "close", .int (n : Nat), .bl r]) ⟨a, i, b, os, hd, fs, lo, l, p⟩ ⟨a, i, b, rfn n r b :: os, hd, fs, lo, l, p⟩
  | call {s t} : RCall c false s t → RRow c (.tup [.str "call"]) s t
  | tail {s t} : RCall c true s t → RRow c (.tup [.str "tail"]) s t
  | ret {v a i b os hd fs lo l p t} : RDel c v ⟨a, i, b, os, hd, fs, lo, l, p⟩ t → RRow c (.tup [.str "return"]) ⟨a, i, b, v :: os, hd, fs, lo, l, p⟩ t
  | ask {o v a0 i0 b0 os j b fs fs0 l p a rows} : 0 < l → fs.length ≤ 1000 → c.bs[c.at o]? = some (a, rows) →
      RRow c (.tup [.str "ask", .str (Op.str o)]) ⟨a0, i0, b0, v :: os, rHd j c.cl b, fs, some fs0, l, p⟩ ⟨a, 0, .tup [rkept (rHd j c.cl b) (rF a0 i0 b0 os :: fs), .tup [v, b]], [], .non, fs0, none, l - 1, p⟩
  | handle {n m a i b os fs l p a2 rows} : fs.length ≤ 1000 → c.bs[n]? = some (a2, rows) →
      RRow c (.tup [.str "handle", .int (n : Nat), .int (m : Nat), .adr c.cl]) ⟨a, i, b, os, .non, fs, none, l, p⟩ ⟨a2, 0, b, [], rHd m c.cl b, [], some (rF a i b os :: fs), l, p⟩
  | jump {n a i b os hd fs lo l p} : RRow c (.tup [.str "jump", .int (n : Nat)]) ⟨a, i, b, os, hd, fs, lo, l, p⟩ ⟨a, n, b, os, hd, fs, lo, l, p⟩
  | unless {n k a i b os hd fs lo l p} : RRow c (.tup [.str "unless", .int (n : Nat)]) ⟨a, i, b, vb k :: os, hd, fs, lo, l, p⟩ ⟨a, if k then i else n, b, os, hd, fs, lo, l, p⟩
  | bind {v a i b os hd fs lo l p} : RRow c (.tup [.str "bind"]) ⟨a, i, b, v :: os, hd, fs, lo, l, p⟩ ⟨a, i, .tup [v, b], os, hd, fs, lo, l, p⟩
  | unbind {u a i b os hd fs lo l p} : RRow c (.tup [.str "unbind"]) ⟨a, i, .tup [u, b], os, hd, fs, lo, l, p⟩ ⟨a, i, b, os, hd, fs, lo, l, p⟩
  | print {n a i b os hd fs lo l p} : p.length ≤ 1000 → RRow c (.tup [.str "print"]) ⟨a, i, b, vi n :: os, hd, fs, lo, l, p⟩ ⟨a, i, b, os, hd, fs, lo, l, p ++ [n]⟩
  | pair {u v a i b os hd fs lo l p} : os.length ≤ 1000 → RRow c (.tup [.str "pair"]) ⟨a, i, b, v :: u :: os, hd, fs, lo, l, p⟩ ⟨a, i, b, .tup [.str "pair", u, v] :: os, hd, fs, lo, l, p⟩
  | op {o n m a i b os hd fs lo l p} : os.length ≤ 1000 → CMul n m → RRow c (.tup [.str "op", .str (Sg.str o)]) ⟨a, i, b, vi m :: vi n :: os, hd, fs, lo, l, p⟩ ⟨a, i, b, mopd o n m :: os, hd, fs, lo, l, p⟩
inductive RRun (c : Cd) : Nat → RO → Int → Int → List Int → Prop
  | fin {a rows i b n m os l p} : (a, rows) ∈ c.bs → rows[i]? = some (.tup [.str "return"]) → RRun c 1 ⟨a, i, b, .tup [.str "pair", vi n, vi m] :: os, .non, [], none, l, p⟩ n m p
  | step {k a rows i b os hd fs lo l p d t n m q} : (a, rows) ∈ c.bs → rows[i]? = some d → RRow c d ⟨a, i + 1, b, os, hd, fs, lo, l, p⟩ t → RRun c k t n m q → RRun c (k + 1) ⟨a, i, b, os, hd, fs, lo, l, p⟩ n m q
/-! ### the objects Piece, Runner -/
abbrev cPc (K : PySem.W.Frag) : Addr := He.ga K "Piece"
abbrev cRn (K : PySem.W.Frag) : Addr := He.ga K "Runner"
abbrev pcF (k : Int) (vh : V) (lf lt : Addr) : List (Str × V) := [("kind", .int k), ("handler", vh), ("frames", .ref lf), ("distance", .int 0), ("table", .ref lt)]
abbrev rnF (bl : Addr) (l : Int) (lp : Addr) (kk : Int) (ve : V) (lq ra : Addr) (pc : Int) (vb : V) (lo : Addr) : List (Str × V) :=
  [("blocks", .ref bl), ("left", .int l), ("prints", .ref lp), ("kept", .int kk), ("end", ve), ("pieces", .ref lq), ("rows", .ref ra), ("at", .int pc), ("bindings", vb), ("operands", .ref lo)]
def kindOf : Option (List D) → Int
  | none => 0
  | some _ => 1
def tblOf : Option (List D) → List (Key × V)
  | none => []
  | some _ => [(.inr "get", .int 0), (.inr "put", .int 0)]
def LowR (K : PySem.W.Frag) (H0 H : Hp) (x px lf lq lp lo : Addr) : Option (List D) → List V → Prop
  | none, pre => pre = []
  | some fs, pre => ∃ p0 pd0 l0 t0 vs, pre = [.ref p0] ∧ H p0 = some (.ins (cPc K) pd0 (pcF 0 .non l0 t0)) ∧ H l0 = some (.lst vs.reverse) ∧ H t0 = some (.dK []) ∧ Reps K H fs vs ∧ l0 ≠ lf ∧ l0 ≠ lq ∧ l0 ≠ lp ∧ l0 ≠ lo ∧ p0 ≠ px ∧ p0 ≠ x ∧ H0 l0 = none ∧ H0 p0 = none
structure RnAt (K : PySem.W.Frag) (H0 : Hp) (c : Cd) (H : Hp) (x : Addr) (s : RO) (dx pdx lp lq lf lt lo px : Addr) (vb vh ve : V) (vfs vops pre : List V) (kk : Int) : Prop where
  obj : H x = some (.ins (cRn K) dx (rnF c.bl s.left lp kk ve lq s.ra s.pc vb lo))
  pr : H lp = some (.lst (s.prints.map V.int))
  pcs : H lq = some (.lst (pre ++ [.ref px]))
  po : H px = some (.ins (cPc K) pdx (pcF (kindOf s.low) vh lf lt))
  fr : H lf = some (.lst vfs.reverse)
  tb : H lt = some (.dK (tblOf s.low))
  op : H lo = some (.lst vops.reverse)
  rb : Rep K H s.b vb
  rh : Rep K H s.hd vh
  rf : Reps K H s.fs vfs
  ro : Reps K H s.ops vops
  n1 : lf ≠ lq
  n2 : lf ≠ lp
  n3 : lq ≠ lp
  n4 : lo ≠ lf
  n5 : lo ≠ lq
  n6 : lo ≠ lp
  n7 : px ≠ x
  sm : Same H0 H
  z1 : H0 x = none
  z2 : H0 lp = none
  z3 : H0 lq = none
  z4 : H0 lf = none
  z5 : H0 lo = none
  z6 : H0 px = none
  low : LowR K H0 H x px lf lq lp lo s.low pre
def RnS (K : PySem.W.Frag) (H0 : Hp) (c : Cd) (H : Hp) (x : Addr) (s : RO) : Prop := ∃ dx pdx lp lq lf lt lo px vb vh vfs vops pre kk, RnAt K H0 c H x s dx pdx lp lq lf lt lo px vb vh .non vfs vops pre kk
section
variable {K : PySem.W.Frag} {H0 H H' : Hp} {c : Cd} {x : Addr} {s : RO} {dx pdx lp lq lf lt lo px : Addr} {vb vh ve : V} {vfs vops pre : List V} {kk : Int}
theorem LowR.mono {o : Option (List D)} (le : Le K H H') (hk : ∀ l v, H l = some (.lst v) → l ≠ lf → l ≠ lq → l ≠ lp → l ≠ lo → H' l = some (.lst v)) (hi : ∀ q d v, H q = some (.ins (cPc K) d v) → q ≠ px → q ≠ x → H' q = some (.ins (cPc K) d v)) (hd : ∀ t v, H t = some (.dK v) → H' t = some (.dK v))
    (h : LowR K H0 H x px lf lq lp lo o pre) : LowR K H0 H' x px lf lq lp lo o pre := by
  cases o with
  | none => exact h
  | some fs =>
    obtain ⟨p0, pd0, l0, t0, vs, e, a, b, d, r, m1, m2, m3, m4, m5, m6, m7, m8⟩ := h
    exact ⟨p0, pd0, l0, t0, vs, e, hi _ _ _ a m5 m6, hk _ _ b m1 m2 m3 m4, hd _ _ d, r.mono le, m1, m2, m3, m4, m5, m6, m7, m8⟩
/-- new things -/
theorem RnAt.same (h : RnAt K H0 c H x s dx pdx lp lq lf lt lo px vb vh ve vfs vops pre kk) (e : Same H H') : RnAt K H0 c H' x s dx pdx lp lq lf lt lo px vb vh ve vfs vops pre kk := by
  have le : Le K H H' := Le.same e
  obtain ⟨a1, a2, a3, a4, a5, a6, a7, a8, a9, a10, a11, n1, n2, n3, n4, n5, n6, n7, sm, z1, z2, z3, z4, z5, z6, low⟩ := h
  exact ⟨e _ _ a1, e _ _ a2, e _ _ a3, e _ _ a4, e _ _ a5, e _ _ a6, e _ _ a7, a8.mono le, a9.mono le, a10.mono le, a11.mono le, n1, n2, n3, n4, n5, n6, n7, sm.trans e, z1, z2, z3, z4, z5, z6, low.mono le (fun l v q _ _ _ _ => e _ _ q) (fun _ _ _ q _ _ => e _ _ q) (fun _ _ q => e _ _ q)⟩
/-- the fields of the runner, but its lists -/
theorem RnAt.fld (h : RnAt K H0 c H x s dx pdx lp lq lf lt lo px vb vh ve vfs vops pre kk) {s' : RO} {vb' ve' : V} {kk' : Int} (e1 : s'.low = s.low) (e2 : s'.prints = s.prints) (e3 : s'.hd = s.hd) (e4 : s'.fs = s.fs) (e5 : s'.ops = s.ops) (r : Rep K H s'.b vb') :
    RnAt K H0 c (upd H x (.ins (cRn K) dx (rnF c.bl s'.left lp kk' ve' lq s'.ra s'.pc vb' lo))) x s' dx pdx lp lq lf lt lo px vb' vh ve' vfs vops pre kk' := by
  obtain ⟨a1, a2, a3, a4, a5, a6, a7, a8, a9, a10, a11, n1, n2, n3, n4, n5, n6, n7, sm, z1, z2, z3, z4, z5, z6, low⟩ := h
  have le : Le K H (upd H x (.ins (cRn K) dx (rnF c.bl s'.left lp kk' ve' lq s'.ra s'.pc vb' lo))) := Le.ins Le.refl a1
  rw [← e1] at a4 a6 low
  rw [← e2] at a2
  rw [← e3] at a9
  rw [← e4] at a10
  rw [← e5] at a11
  exact ⟨upd_same, get_kind a2 a1 rfl, get_kind a3 a1 rfl, get_ne a4 n7, get_kind a5 a1 rfl, get_kind a6 a1 rfl, get_kind a7 a1 rfl, r.mono le, a9.mono le, a10.mono le, a11.mono le, n1, n2, n3, n4, n5, n6, n7, Same.mut sm z1, z1, z2, z3, z4, z5, z6,
    low.mono le (fun l v q _ _ _ _ => get_kind q a1 rfl) (fun _ _ _ q _ m => get_ne q m) (fun _ _ q => get_kind q a1 rfl)⟩
/-- its operands -/
theorem RnAt.ops (h : RnAt K H0 c H x s dx pdx lp lq lf lt lo px vb vh ve vfs vops pre kk) {s' : RO} {vops' : List V} (e : s' = { s with ops := s'.ops }) (r : Reps K H s'.ops vops') : RnAt K H0 c (upd H lo (.lst vops'.reverse)) x s' dx pdx lp lq lf lt lo px vb vh ve vfs vops' pre kk := by
  obtain ⟨a1, a2, a3, a4, a5, a6, a7, a8, a9, a10, a11, n1, n2, n3, n4, n5, n6, n7, sm, z1, z2, z3, z4, z5, z6, low⟩ := h
  have le : Le K H (upd H lo (.lst vops'.reverse)) := Le.lst Le.refl a7
  rw [e]
  exact ⟨get_kind a1 a7 rfl, get_ne a2 n6.symm, get_ne a3 n5.symm, get_kind a4 a7 rfl, get_ne a5 n4.symm, get_kind a6 a7 rfl, upd_same, a8.mono le, a9.mono le, a10.mono le, r.mono le, n1, n2, n3, n4, n5, n6, n7, Same.mut sm z5, z1, z2, z3, z4, z5, z6,
    low.mono le (fun l v q _ _ _ m => get_ne q m) (fun _ _ _ q _ m => get_kind q a7 rfl) (fun _ _ q => get_kind q a7 rfl)⟩
/-- the frames of its top piece -/
theorem RnAt.frs (h : RnAt K H0 c H x s dx pdx lp lq lf lt lo px vb vh ve vfs vops pre kk) {s' : RO} {vfs' : List V} (e : s' = { s with fs := s'.fs }) (r : Reps K H s'.fs vfs') : RnAt K H0 c (upd H lf (.lst vfs'.reverse)) x s' dx pdx lp lq lf lt lo px vb vh ve vfs' vops pre kk := by
  obtain ⟨a1, a2, a3, a4, a5, a6, a7, a8, a9, a10, a11, n1, n2, n3, n4, n5, n6, n7, sm, z1, z2, z3, z4, z5, z6, low⟩ := h
  have le : Le K H (upd H lf (.lst vfs'.reverse)) := Le.lst Le.refl a5
  rw [e]
  exact ⟨get_kind a1 a5 rfl, get_ne a2 n2.symm, get_ne a3 n1.symm, get_kind a4 a5 rfl, upd_same, get_kind a6 a5 rfl, get_ne a7 n4, a8.mono le, a9.mono le, r.mono le, a11.mono le, n1, n2, n3, n4, n5, n6, n7, Same.mut sm z4, z1, z2, z3, z4, z5, z6,
    low.mono le (fun l v q m _ _ _ => get_ne q m) (fun _ _ _ q _ m => get_kind q a5 rfl) (fun _ _ q => get_kind q a5 rfl)⟩
/-- its prints -/
theorem RnAt.prs (h : RnAt K H0 c H x s dx pdx lp lq lf lt lo px vb vh ve vfs vops pre kk) {s' : RO} (e : s' = { s with prints := s'.prints }) : RnAt K H0 c (upd H lp (.lst (s'.prints.map V.int))) x s' dx pdx lp lq lf lt lo px vb vh ve vfs vops pre kk := by
  obtain ⟨a1, a2, a3, a4, a5, a6, a7, a8, a9, a10, a11, n1, n2, n3, n4, n5, n6, n7, sm, z1, z2, z3, z4, z5, z6, low⟩ := h
  have le : Le K H (upd H lp (.lst (s'.prints.map V.int))) := Le.lst Le.refl a2
  rw [e]
  exact ⟨get_kind a1 a2 rfl, upd_same, get_ne a3 n3, get_kind a4 a2 rfl, get_ne a5 n2, get_kind a6 a2 rfl, get_ne a7 n6, a8.mono le, a9.mono le, a10.mono le, a11.mono le, n1, n2, n3, n4, n5, n6, n7, Same.mut sm z2, z1, z2, z3, z4, z5, z6,
    low.mono le (fun l v q _ _ m _ => get_ne q m) (fun _ _ _ q _ m => get_kind q a2 rfl) (fun _ _ q => get_kind q a2 rfl)⟩
/-- the runner with other operands (a new list) and other fields -/
theorem RnAt.ent (h : RnAt K H0 c H x s dx pdx lp lq lf lt lo px vb vh ve vfs vops pre kk) {s' : RO} {vb' ve' : V} {kk' : Int} {lo' : Addr} {vops' : List V} (e1 : s'.low = s.low) (e2 : s'.prints = s.prints) (e3 : s'.hd = s.hd) (e4 : s'.fs = s.fs)
    (ho : H' x = some (.ins (cRn K) dx (rnF c.bl s'.left lp kk' ve' lq s'.ra s'.pc vb' lo'))) (kp : ∀ b o, b ≠ x → H b = some o → H' b = some o) (hl : H' lo' = some (.lst vops'.reverse)) (fr : H lo' = none) (ro : Reps K H' s'.ops vops') (r : Rep K H' s'.b vb') :
    RnAt K H0 c H' x s' dx pdx lp lq lf lt lo' px vb' vh ve' vfs vops' pre kk' := by
  obtain ⟨a1, a2, a3, a4, a5, a6, a7, a8, a9, a10, a11, n1, n2, n3, _, _, _, n7, sm, z1, z2, z3, z4, _, z6, low⟩ := h
  have nx : ∀ {b : Addr} {u : HO}, H b = some u → (kindO u == 3) = false → b ≠ x := fun e d => ne_kind e a1 d
  have k2 : ∀ {b : Addr} {u : HO}, H b = some u → (kindO u == 3) = false → H' b = some u := fun e d => kp _ _ (nx e d) e
  have le : Le K H H' := Le.of fun b u e z => k2 e (by rcases z with ⟨_, rfl⟩ | ⟨_, _, rfl⟩ <;> rfl)
  rw [← e1] at a4 a6 low
  rw [← e2] at a2
  rw [← e3] at a9
  rw [← e4] at a10
  refine ⟨ho, k2 a2 rfl, k2 a3 rfl, kp _ _ n7 a4, k2 a5 rfl, k2 a6 rfl, hl, r, a9.mono le, a10.mono le, ro, n1, n2, n3, (ne_of_none a5 fr).symm, (ne_of_none a3 fr).symm, (ne_of_none a2 fr).symm, n7, fun b o e => ?_, z1, z2, z3, z4, sm.free fr, z6, ?_⟩
  · exact kp _ _ (ne_of_none e z1) (sm _ _ e)
  cases hs : s'.low with
  | none => rw [hs] at low; exact low
  | some fs =>
    rw [hs] at low
    obtain ⟨p0, pd0, l0, t0, vs, e, a, b, d, r, m1, m2, m3, m4, m5, m6, m7, m8⟩ := low
    exact ⟨p0, pd0, l0, t0, vs, e, kp _ _ m6 a, k2 b rfl, k2 d rfl, r.mono le, m1, m2, m3, ne_of_none b fr, m5, m6, m7, m8⟩
theorem RnS.same (h : Same H H') : RnS K H0 c H x s → RnS K H0 c H' x s := fun ⟨dx, pdx, lp, lq, lf, lt, lo, px, vb, vh, vfs, vops, pre, kk, a⟩ => ⟨dx, pdx, lp, lq, lf, lt, lo, px, vb, vh, vfs, vops, pre, kk, a.same h⟩
theorem RnAt.toS (h : RnAt K H0 c H x s dx pdx lp lq lf lt lo px vb vh .non vfs vops pre kk) : RnS K H0 c H x s := ⟨_, _, _, _, _, _, _, _, _, _, _, _, _, _, h⟩
end
theorem Reps.at {K : PySem.W.Frag} {H : Hp} : ∀ {ds : List D} {vs : List V} {i : Nat} {d : D}, Reps K H ds vs → ds[i]? = some d → ∃ v, vs[i]? = some v ∧ Rep K H d v
  | [], _, _, _, h, q => by simp at q
  | d :: _, _, 0, _, ⟨v, r, e, h, t⟩, q => by
    simp at q
    rw [e]
    exact ⟨v, rfl, q ▸ h⟩
  | _ :: _, _, i + 1, _, ⟨v, r, e, h, t⟩, q => by
    obtain ⟨w, e2, h2⟩ := Reps.at (i := i) t (by simpa using q)
    exact ⟨w, by rw [e]; simpa using e2, h2⟩
/-! ### an attribute as a target in a tuple -/
def gFld (C : Addr) (f : Str) (ta : TE) : TG := fun v σ H Q => ta σ H fun x H1 => ∃ a dx fs, x = .ref a ∧ H1 a = some (.ins C dx fs) ∧ fs.length < 1000 ∧ Q σ (upd H1 a (.ins C dx (putF f v fs)))
section
variable {X : Cx} {o : Expr} {f : Str} {pos : Pos} {ta : TE} {C : Addr}
theorem pg_fld (c : Cls X.K C) (n : NoAttr X.K C f) (ho : PE X o ta) : PG X (.Attribute o f pos) (gFld C f ta) := by
  refine ⟨fun pins s σ H v u Q I r h => ?_⟩
  refine PySem.W.kas_attr (thn (ho.run pins s σ H _ I h) fun ov s2 ⟨x, H2, I2, rx, a, dx, fs, ex, ea, l, q2⟩ => ?_)
  subst ex
  obtain rfl : ov = Value.ref a := rx
  exact setattr_ok I2 ea c n l r fun s3 I3 => ⟨σ, _, I3, q2⟩
end
section
variable {K : PySem.W.Frag} {H : Hp} {σ : L2.St}
theorem w_gfld {C : Addr} {f : Str} {ta : TE} {v : V} {QS : L2.St → Hp → Prop} (h : ta σ H fun x H1 => ∃ a dx fs, x = .ref a ∧ H1 a = some (.ins C dx fs) ∧ fs.length < 1000 ∧ QS σ (upd H1 a (.ins C dx (putF f v fs)))) : gFld C f ta v σ H QS := h
theorem w_dput {td ty tv : TE} {D : Ends} (h : tv σ H fun v H1 => td σ H1 fun x H2 => ty σ H2 fun y H3 => ∃ a H4, x = .ref a ∧ DPut H3 a y v H4 ∧ D.nx σ H4) : sDPut td ty tv D σ H := h
theorem w_dnin {ty td : TE} {QB : Bool → Hp → Prop} (h : ty σ H fun y H1 => td σ H1 fun x H2 => ∃ a o, x = .ref a ∧ DGet H2 a y o ∧ ∃ k, V.bl (!o.isSome) = .bl k ∧ QB k H2) : tTest (tDNotIn ty td) σ H QB := h
theorem w_iRng1' {ta : TA} {R : It → Hp → Prop} (h : ta σ H fun vs H1 => ∃ j : Int, vs = [.int j] ∧ -(2 ^ 62) ≤ j ∧ j < 2 ^ 62 ∧ R (Itr 0 j.toNat) H1) : iRng1 ta σ H R := h
theorem sql_kind {K : PySem.W.Frag} {a p : Addr} {u o : HO} {xs : List V} (h : SqL K H a xs) (m : H p = some u) (d : (kindO u == 0 || kindO u == 10) = false) : SqL K (upd H p o) a xs := by
  have ne : ∀ {v : HO}, H a = some v → (kindO v == 0 || kindO v == 10) = true → a ≠ p := fun e z q => by
    rw [q, m] at e
    cases e
    rw [d] at z
    cases z
  rcases h with (h | ⟨o', h⟩) | h
  · exact .inl (.inl (get_ne h (ne h rfl)))
  · exact .inl (.inr ⟨o', get_ne h (ne h rfl)⟩)
  · exact .inr h
theorem w_gen {P F : Hp → Prop} (f : F H) (k : ∀ H1, F H1 → P H1) : P H := k H f
theorem w_genS {sp : Sp} {vs : List V} {Q : VK} {E : XK} (F : Hp → Prop) (f : F H) (k : ∀ H1, F H1 → sp vs H1 Q E) : sp vs H Q E := k H f
theorem w_lock {t : TS} {D : Ends} {σ : L2.St} {H : Hp} (h : ∃ d u, H d = some u ∧ Mut (some u) ∧ ∀ od, t ⟨fun σ' H' => H' d = some (.frz od u) ∧ D.nx σ' (upd H' d u), fun v H' => H' d = some (.frz od u) ∧ D.rt v (upd H' d u), fun σ' H' => H' d = some (.frz od u) ∧ D.bk σ' (upd H' d u), fun σ' H' => H' d = some (.frz od u) ∧ D.ct σ' (upd H' d u)⟩ σ (upd H d (.frz od u))) : tLock t D σ H := h
theorem w_iKeys {td : TE} {R : It → Hp → Prop} (h : td σ H fun x H1 => ∃ d o, x = .ref d ∧ ((∃ kvs, H1 d = some (.frz o (.dK kvs)) ∧ R (Itk d o kvs) H1) ∨ ∃ kvs, H1 d = some (.frz o (.dT kvs)) ∧ R (Itkt d o kvs) H1)) : iKeys td σ H R := h
theorem upd_back {a : Addr} {o u : HO} (h : H a = some u) : upd (upd H a o) a u = H := by
  funext b
  by_cases e : b = a
  · rw [e, upd_same, h]
  · rw [upd_ne e, upd_ne e]
end
end K42
set_option maxRecDepth 100000
set_option maxHeartbeats 400000
namespace K42
open PySem PySem.Spec PyProof.Rows L2
section
variable {K : PySem.W.Frag} {H0 H H' : Hp} {c : Cd} {x : Addr} {s : RO} {dx pdx lp lq lf lt lo px : Addr} {vb vh ve : V} {vfs vops pre : List V} {kk : Int}
/-- the top piece off -/
theorem RnAt.cut (h : RnAt K H0 c H x s dx pdx lp lq lf lt lo px vb vh ve vfs vops pre kk) {fs0 : List D} (hs : s.low = some fs0) {lq' : Addr} {kk' : Int} (ho : H' x = some (.ins (cRn K) dx (rnF c.bl s.left lp kk' .non lq' s.ra s.pc vb lo)))
    (kp : ∀ b o, b ≠ x → b ≠ lq → H b = some o → H' b = some o) (hq : H' lq' = some (.lst pre)) (fr : lq' = lq ∨ H lq' = none) : RnS K H0 c H' x { s with hd := .non, fs := fs0, low := none } := by
  obtain ⟨a1, a2, a3, a4, a5, a6, a7, a8, a9, a10, a11, n1, n2, n3, n4, n5, n6, n7, sm, z1, z2, z3, z4, z5, z6, low⟩ := h
  rw [hs] at low
  obtain ⟨p0, pd0, l0, t0, vs, rfl, a, b, d, r, m1, m2, m3, m4, m5, m6, m7, m8⟩ := low
  have nx : ∀ {b : Addr} {u : HO}, H b = some u → (kindO u == 3) = false → b ≠ x := fun e d => ne_kind e a1 d
  have nq : ∀ {b : Addr} {u : HO}, H b = some u → (kindO u == 0) = false → b ≠ lq := fun e d => ne_kind e a3 d
  have le : Le K H H' := Le.of fun b u e z => by rcases z with ⟨_, rfl⟩ | ⟨_, _, rfl⟩ <;> exact kp _ _ (nx e rfl) (nq e rfl) e
  have fq : ∀ {b : Addr} {u : HO}, H b = some u → b ≠ lq → b ≠ lq' := fun e n => by
    rcases fr with rfl | fr
    · exact n
    · exact ne_of_none e fr
  have zq : H0 lq' = none := by
    rcases fr with rfl | fr
    · exact z3
    · exact sm.free fr
  exact ⟨dx, pd0, lp, lq', l0, t0, lo, p0, vb, .non, vs, vops, [], kk', ho, kp _ _ (nx a2 rfl) n3.symm a2, hq, kp _ _ m6 (nq a rfl) a, kp _ _ (nx b rfl) m2 b, kp _ _ (nx d rfl) (nq d rfl) d, kp _ _ (nx a7 rfl) n5 a7, a8.mono le, rfl, r.mono le, a11.mono le,
    fq b m2, m3, (fq a2 n3.symm).symm, m4.symm, fq a7 n5, n6, m6, fun b o e => kp _ _ (ne_of_none e z1) (ne_of_none e z3) (sm _ _ e), z1, z2, zq, m7, z5, m8, rfl⟩
/-- a piece on -/
theorem RnAt.add (h : RnAt K H0 c H x s dx pdx lp lq lf lt lo px vb vh .non vfs vops pre kk) (hs : s.low = none) (hh : s.hd = .non) {px' pdx' lf' lt' : Addr} {vh' : V} {vks : List V} {hd' : D} {ks : List D} (kp : ∀ b o, b ≠ lq → H b = some o → H' b = some o)
    (hq : H' lq = some (.lst [.ref px, .ref px'])) (hp : H' px' = some (.ins (cPc K) pdx' (pcF 1 vh' lf' lt'))) (hl : H' lf' = some (.lst vks.reverse)) (ht : H' lt' = some (.dK [(.inr "get", .int 0), (.inr "put", .int 0)])) (f1 : H px' = none) (f2 : H lf' = none)
    (rh : Rep K H' hd' vh') (rk : Reps K H' ks vks) : RnS K H0 c H' x { s with hd := hd', fs := ks, low := some s.fs } := by
  obtain ⟨a1, a2, a3, a4, a5, a6, a7, a8, a9, a10, a11, n1, n2, n3, n4, n5, n6, n7, sm, z1, z2, z3, z4, z5, z6, low⟩ := h
  rw [hs] at low a4 a6
  rw [hh] at a9
  obtain rfl : pre = [] := low
  obtain rfl : vh = .non := a9
  have nq : ∀ {b : Addr} {u : HO}, H b = some u → (kindO u == 0) = false → b ≠ lq := fun e d => ne_kind e a3 d
  have le : Le K H H' := Le.of fun b u e z => by rcases z with ⟨_, rfl⟩ | ⟨_, _, rfl⟩ <;> exact kp _ _ (nq e rfl) e
  exact ⟨dx, pdx', lp, lq, lf', lt', lo, px', vb, vh', vks, vops, [.ref px], kk, kp _ _ (nq a1 rfl) a1, kp _ _ n3.symm a2, hq, hp, hl, ht, kp _ _ n5 a7, a8.mono le, rh, rk, a11.mono le,
    (ne_of_none a3 f2).symm, (ne_of_none a2 f2).symm, n3, ne_of_none a7 f2, n5, n6, (ne_of_none a1 f1).symm, fun b o e => kp _ _ (ne_of_none e z3) (sm _ _ e), z1, z2, z3, sm.free f2, z5, sm.free f1,
    px, pdx, lf, lt, vfs, rfl, kp _ _ (nq a4 rfl) a4, kp _ _ n1 a5, kp _ _ (nq a6 rfl) a6, a10.mono le, ne_of_none a5 f2, n1, n2, n4.symm, ne_of_none a4 f1, n7, z4, z6⟩
theorem w_gfld1 {gs : TGs} {C a : Addr} {f : Str} {y : V} {fs : List (Str × V)} {xs : List V} {σ : L2.St} {QS : L2.St → Hp → Prop} (h : H a = some (.ins C dx fs)) (hl : Nat.ble fs.length 900 = true) (k : gs xs σ (upd H a (.ins C dx (putF f y fs))) QS) :
    ∃ b dx fs, V.ref a = .ref b ∧ H b = some (.ins C dx fs) ∧ fs.length < 1000 ∧ gs xs σ (upd H b (.ins C dx (putF f y fs))) QS := ⟨a, dx, fs, rfl, h, Nat.lt_of_le_of_lt (Nat.le_of_ble_eq_true hl) (by decide), k⟩
end
end K42
set_option maxRecDepth 100000
set_option maxHeartbeats 400000
namespace K42
open PySem PySem.Spec PyProof.Rows L2
/-! ### the compiler, in plain Lean -/
def E.size : E → Nat
  | .num _ | .unit | .name _ | .quoted _ => 1
  | .call e f | .lt _ e f | .pair e f | .op _ e f | .print e f => e.size + f.size + 1
  | .fn _ e | .rc _ _ e | .ask _ e => e.size + 1
  | .ite e f g => e.size + f.size + g.size + 1
/-- every name is bound, nothing is quoted -/
def E.clo : E → List Nm → Prop
  | .num _, _ | .unit, _ => True
  | .quoted _, _ => False
  | .name x, ns => x ∈ ns
  | .call e f, ns | .pair e f, ns | .op _ e f, ns | .print e f, ns => e.clo ns ∧ f.clo ns
  | .lt x e f, ns => e.clo ns ∧ f.clo (ns ++ [x])
  | .fn x e, ns => e.clo (ns ++ [x])
  | .rc h x e, ns => e.clo (ns ++ [h, x])
  | .ask _ e, ns => e.clo ns
  | .ite e f g, ns => e.clo ns ∧ f.clo ns ∧ g.clo ns
def idx (x : Nm) (ns : List Nm) : Nat := ns.reverse.idxOf x
/-- the new entries of the queue -/
def E.qs : E → List Nm → List (E × List Nm)
  | .num _, _ | .unit, _ | .name _, _ | .quoted _, _ => []
  | .call e f, ns | .pair e f, ns | .op _ e f, ns | .print e f, ns => e.qs ns ++ f.qs ns
  | .lt x e f, ns => e.qs ns ++ f.qs (ns ++ [x])
  | .fn x e, ns => [(e, ns ++ [x])]
  | .rc h x e, ns => [(e, ns ++ [h, x])]
  | .ask _ e, ns => e.qs ns
  | .ite e f g, ns => e.qs ns ++ (f.qs ns ++ g.qs ns)
abbrev rowB (s : Str) : D := .tup [.str s]
abbrev rowN (s : Str) (n : Nat) : D := .tup [.str s, .int n]
def E.val : E → List Nm → Nat → Nat → List D
  | .num i, _, _, _ => [vi i]
  | .unit, _, _, _ => [vu]
  | .quoted _, _, _, _ => []
  | .name x, ns, _, _ => [rowN "load" (idx x ns)]
  | .fn _ _, _, _, q => [.tup [.str "close", .int q, .bl false]]
  | .rc _ _ _, _, _, q => [.tup [.str "close", .int q, .bl true]]
  | .call e f, ns, p, q => e.val ns p q ++ f.val ns (p + (e.val ns p q).length) (q + (e.qs ns).length) ++ [rowB "call"]
  | .pair e f, ns, p, q => e.val ns p q ++ f.val ns (p + (e.val ns p q).length) (q + (e.qs ns).length) ++ [rowB "pair"]
  | .op s e f, ns, p, q => e.val ns p q ++ f.val ns (p + (e.val ns p q).length) (q + (e.qs ns).length) ++ [.tup [.str "op", .str s.str]]
  | .ask o e, ns, p, q => e.val ns p q ++ [.tup [.str "ask", .str o.str]]
  | .lt x e f, ns, p, q => e.val ns p q ++ ([rowB "bind"] ++ (f.val (ns ++ [x]) (p + (e.val ns p q).length + 1) (q + (e.qs ns).length) ++ [rowB "unbind"]))
  | .print e f, ns, p, q => e.val ns p q ++ ([rowB "print"] ++ f.val ns (p + (e.val ns p q).length + 1) (q + (e.qs ns).length))
  | .ite e f g, ns, p, q =>
    let re := e.val ns p q
    let pf := p + re.length + 1
    let rf := f.val ns pf (q + (e.qs ns).length)
    let pg := pf + rf.length + 1
    let rg := g.val ns pg (q + (e.qs ns).length + (f.qs ns).length)
    re ++ ([rowN "unless" pg] ++ (rf ++ ([rowN "jump" (pg + rg.length)] ++ rg)))
def E.last : E → List Nm → Nat → Nat → List D
  | .call e f, ns, p, q => e.val ns p q ++ f.val ns (p + (e.val ns p q).length) (q + (e.qs ns).length) ++ [rowB "tail"]
  | .lt x e f, ns, p, q => e.val ns p q ++ ([rowB "bind"] ++ f.last (ns ++ [x]) (p + (e.val ns p q).length + 1) (q + (e.qs ns).length))
  | .print e f, ns, p, q => e.val ns p q ++ ([rowB "print"] ++ f.last ns (p + (e.val ns p q).length + 1) (q + (e.qs ns).length))
  | .ite e f g, ns, p, q =>
    let re := e.val ns p q
    let pf := p + re.length + 1
    let rf := f.last ns pf (q + (e.qs ns).length)
    let pg := pf + rf.length
    let rg := g.last ns pg (q + (e.qs ns).length + (f.qs ns).length)
    re ++ ([rowN "unless" pg] ++ (rf ++ rg))
  | e, ns, p, q => e.val ns p q ++ [rowB "return"]
theorem E.size_pos : ∀ e : E, 0 < e.size := fun e => by cases e <;> simp [E.size]
theorem E.val_len : ∀ (e : E) (ns : List Nm) (p q : Nat), (e.val ns p q).length ≤ 3 * e.size
  | .num _, _, _, _ | .unit, _, _, _ | .name _, _, _, _ | .quoted _, _, _, _ | .fn _ _, _, _, _ | .rc _ _ _, _, _, _ => by simp [E.val, E.size] <;> omega
  | .call e f, ns, p, q | .pair e f, ns, p, q | .op _ e f, ns, p, q | .print e f, ns, p, q => by
    have h1 := E.val_len e ns p q
    have h2 := E.val_len f ns (p + (e.val ns p q).length) (q + (e.qs ns).length)
    have h3 := E.val_len f ns (p + (e.val ns p q).length + 1) (q + (e.qs ns).length)
    simp only [E.val, E.size, List.length_append, List.length_cons, List.length_nil]
    omega
  | .lt x e f, ns, p, q => by
    have h1 := E.val_len e ns p q
    have h3 := E.val_len f (ns ++ [x]) (p + (e.val ns p q).length + 1) (q + (e.qs ns).length)
    simp only [E.val, E.size, List.length_append, List.length_cons, List.length_nil]
    omega
  | .ask _ e, ns, p, q => by
    have h1 := E.val_len e ns p q
    simp only [E.val, E.size, List.length_append, List.length_cons, List.length_nil]
    omega
  | .ite e f g, ns, p, q => by
    have h1 := E.val_len e ns p q
    have h2 := E.val_len f ns (p + (e.val ns p q).length + 1) (q + (e.qs ns).length)
    have h3 := E.val_len g ns (p + (e.val ns p q).length + 1 + (f.val ns (p + (e.val ns p q).length + 1) (q + (e.qs ns).length)).length + 1) (q + (e.qs ns).length + (f.qs ns).length)
    simp only [E.val, E.size, List.length_append, List.length_cons, List.length_nil]
    omega
theorem E.qs_len : ∀ (e : E) (ns : List Nm), (e.qs ns).length ≤ e.size
  | .num _, _ | .unit, _ | .name _, _ | .quoted _, _ | .fn _ _, _ | .rc _ _ _, _ => by simp [E.qs, E.size]
  | .call e f, ns | .pair e f, ns | .op _ e f, ns | .print e f, ns => by
    have h1 := E.qs_len e ns
    have h2 := E.qs_len f ns
    simp only [E.qs, E.size, List.length_append]
    omega
  | .lt x e f, ns => by
    have h1 := E.qs_len e ns
    have h2 := E.qs_len f (ns ++ [x])
    simp only [E.qs, E.size, List.length_append]
    omega
  | .ask _ e, ns => by
    have h1 := E.qs_len e ns
    simp only [E.qs, E.size]
    omega
  | .ite e f g, ns => by
    have h1 := E.qs_len e ns
    have h2 := E.qs_len f ns
    have h3 := E.qs_len g ns
    simp only [E.qs, E.size, List.length_append]
    omega
/-! ### the heap of the compiler -/
abbrev cCp (K : PySem.W.Frag) : Addr := He.ga K "Compiler"
abbrev cpF (lb lu : Addr) : List (Str × V) := [("blocks", .ref lb), ("queue", .ref lu)]
def Kp (H H' : Hp) (l u : Addr) : Prop := ∀ b o, b ≠ l → b ≠ u → H b = some o → H' b = some o
def QRep (K : PySem.W.Frag) (H : Hp) (l u : Addr) (q : E × List Nm) (v : V) : Prop := ∃ t ve nl, v = .ref t ∧ SqT K H t [ve, .ref nl] ∧ Rep K H q.1.d ve ∧ H nl = some (.lst (nmV q.2)) ∧ nl ≠ l ∧ nl ≠ u
def QReps (K : PySem.W.Frag) (H : Hp) (l u : Addr) : List (E × List Nm) → List V → Prop
  | [], vs => vs = []
  | q :: r, vs => ∃ v t, vs = v :: t ∧ QRep K H l u q v ∧ QReps K H l u r t
section
variable {K : PySem.W.Frag} {H H1 H2 : Hp} {l u : Addr} {xs ys : List V}
theorem Kp.trans (a : Kp H H1 l u) (b : Kp H1 H2 l u) : Kp H H2 l u := fun p o n m e => b p o n m (a p o n m e)
theorem Kp.refl : Kp H H l u := fun _ _ _ _ e => e
theorem Kp.le (a : Kp H H1 l u) (h1 : H l = some (.lst xs)) (h2 : H u = some (.lst ys)) : Le K H H1 := Le.of fun b v e z => a b v (ne_of e h1 fun q => by rcases z with ⟨_, rfl⟩ | ⟨_, _, rfl⟩ <;> cases q) (ne_of e h2 fun q => by rcases z with ⟨_, rfl⟩ | ⟨_, _, rfl⟩ <;> cases q) e
theorem QRep.mono {q : E × List Nm} {v : V} (le : Le K H H1) (kp : Kp H H1 l u) : QRep K H l u q v → QRep K H1 l u q v := fun ⟨t, ve, nl, a, b, c, d, e, f⟩ => ⟨t, ve, nl, a, le _ _ b, c.mono le, kp _ _ e f d, e, f⟩
theorem QReps.mono (le : Le K H H1) (kp : Kp H H1 l u) : ∀ {qs : List (E × List Nm)} {vs : List V}, QReps K H l u qs vs → QReps K H1 l u qs vs
  | [], _, h => h
  | _ :: _, _, ⟨v, t, e, a, b⟩ => ⟨v, t, e, a.mono le kp, QReps.mono le kp b⟩
theorem QReps.app : ∀ {qs rs : List (E × List Nm)} {vs ws : List V}, QReps K H l u qs vs → QReps K H l u rs ws → QReps K H l u (qs ++ rs) (vs ++ ws)
  | [], _, _, _, h, h2 => by rw [show _ = _ from h]; exact h2
  | _ :: _, _, _, _, ⟨v, t, e, a, b⟩, h2 => by rw [e]; exact ⟨v, _, rfl, a, QReps.app b h2⟩
theorem QReps.len : ∀ {qs : List (E × List Nm)} {vs : List V}, QReps K H l u qs vs → vs.length = qs.length
  | [], _, h => by rw [show _ = _ from h] <;> rfl
  | _ :: _, _, ⟨v, t, e, a, b⟩ => by rw [e, List.length_cons, List.length_cons, QReps.len b]
end
/-- what a value's walk knows -/
structure CvAt (K : PySem.W.Frag) (H : Hp) (x dx lb lu l nl : Addr) (qvs vs0 : List V) (ns : List Nm) : Prop where
  ho : H x = some (.ins (cCp K) dx (cpF lb lu))
  hu : H lu = some (.lst qvs)
  hl : H l = some (.lst vs0)
  hn : H nl = some (.lst (nmV ns))
  n0 : l ≠ lu
  n1 : nl ≠ l
  n2 : nl ≠ lu
section
variable {K : PySem.W.Frag} {H H' : Hp} {x dx lb lu l nl q nl' : Addr} {qvs vs0 rs qn r : List V} {ns ns' : List Nm}
theorem CvAt.next (h : CvAt K H x dx lb lu l nl qvs vs0 ns) (kp : Kp H H' l lu) (hl : H' l = some (.lst (vs0 ++ rs))) (hu : H' lu = some (.lst (qvs ++ qn))) : CvAt K H' x dx lb lu l nl (qvs ++ qn) (vs0 ++ rs) ns :=
  ⟨kp _ _ (ne_ins_lst h.ho h.hl) (ne_ins_lst h.ho h.hu) h.ho, hu, hl, kp _ _ h.n1 h.n2 h.hn, h.n0, h.n1, h.n2⟩
theorem CvAt.same (h : CvAt K H x dx lb lu l nl qvs vs0 ns) (s : Same H H') : CvAt K H' x dx lb lu l nl qvs vs0 ns := ⟨s _ _ h.ho, s _ _ h.hu, s _ _ h.hl, s _ _ h.hn, h.n0, h.n1, h.n2⟩
theorem CvAt.push (h : CvAt K H x dx lb lu l nl qvs vs0 ns) {v : V} : CvAt K (upd H l (.lst (vs0 ++ [v]))) x dx lb lu l nl qvs (vs0 ++ [v]) ns :=
  ⟨get_kind h.ho h.hl rfl, get_ne h.hu h.n0.symm, upd_same, get_ne h.hn h.n1, h.n0, h.n1, h.n2⟩
theorem CvAt.setl (h : CvAt K H x dx lb lu l nl qvs vs0 ns) {vs1 : List V} : CvAt K (upd H l (.lst vs1)) x dx lb lu l nl qvs vs1 ns :=
  ⟨get_kind h.ho h.hl rfl, get_ne h.hu h.n0.symm, upd_same, get_ne h.hn h.n1, h.n0, h.n1, h.n2⟩
theorem CvAt.names (h : CvAt K H x dx lb lu l nl qvs vs0 ns) (hn : H nl' = some (.lst (nmV ns'))) (n1 : nl' ≠ l) (n2 : nl' ≠ lu) : CvAt K H x dx lb lu l nl' qvs vs0 ns' := ⟨h.ho, h.hu, h.hl, hn, h.n0, n1, n2⟩
theorem CvAt.kpush (h : CvAt K H x dx lb lu l nl qvs vs0 ns) {o : HO} : Kp H (upd H l o) l lu := fun b _ n _ e => get_ne e n
theorem Kp.same (s : Same H H') : Kp H H' l lu := fun b _ _ _ e => s _ _ e
end
theorem set_mid {a b : List V} {u y : V} : (a ++ ([u] ++ b)).set a.length y = a ++ ([y] ++ b) := by
  rw [List.set_append_right _ _ (Nat.le_refl _), Nat.sub_self]
  rfl
theorem ixN_mid {a b : List V} {u : V} : ixN (a ++ ([u] ++ b)).length (a.length : Int) = some a.length := by
  have h : a.length < (a ++ ([u] ++ b)).length := by simp only [List.length_append, List.length_cons, List.length_nil]; omega
  unfold ixN
  rw [if_pos (Int.natCast_nonneg _), if_pos (by omega), Int.toNat_natCast]
theorem nmV_app (a b : List Nm) : nmV a ++ nmV b = nmV (a ++ b) := (List.map_append).symm
/-! ### the module's dict -/
def rInK (K : PySem.W.Frag) (w : World) : R2 := fun x y H Q => ∃ p z r, x = .str z ∧ y = .ref p ∧ (∃ es n, KDict K w p es n) ∧ PySem.W.nsIn K p z = some r ∧ Q (.bl r.isSome) H
theorem op_inK {X : Cx} : OpR X (compareOp .In) (rInK X.K X.w) := by
  intro pins s σ H x y v u Q I rx ry h
  obtain ⟨p, z, r, rfl, rfl, ⟨es, n, D⟩, e, q⟩ := h
  exact op_in_kd D pins s σ H _ _ v u Q I rx ry ⟨z, r, rfl, rfl, e, q⟩
end K42
set_option maxRecDepth 100000
set_option maxHeartbeats 400000
namespace K42
open PySem PySem.Spec PyProof.Rows L2
/-! ### the law's trees -/
abbrev getE : E := .ask .get .unit
def gE : E := .fn .s (.call (.call (.name .k) (.name .s)) (.name .s))
def pE (sh : Bool) : E := .fn .s (if sh then .print (.name .n) (.call (.call (.name .k) .unit) (.name .n)) else .call (.call (.name .k) .unit) (.name .n))
abbrev lawH (sh : Bool) : Hd := ⟨.x, .fn .s (.pair (.name .x) (.name .s)), .u, gE, .n, pE sh⟩
inductive Deed where | put7 (n : Int) | shw | choose (n : Int) | loop (n : Int) (r : Nat)
abbrev bodyE (n : Int) : E := .ite (.op .lt (.name .n) (.num 1)) .unit (.lt .z (.ask .put (.op .add getE (.num n))) (.call (.name .h) (.op .sub (.name .n) (.num 1))))
def Deed.e : Deed → E
  | .put7 n => .ask .put (.op .add (.op .mul getE (.num 7)) (.num n))
  | .shw => .print getE .unit
  | .choose n => .ite (.op .lt getE (.num n)) .unit (.ask .put (.num n))
  | .loop n r => .call (.rc .h .n (bodyE n)) (.num r)
def treeE : List Deed → E
  | [] => .op .sub getE (.num 1)
  | d :: ds => .lt .z d.e (treeE ds)
abbrev handleD (sh : Bool) (ds : List Deed) : D := .tup [.str "handle", (treeE ds).d, (lawH sh).ret, (lawH sh).cls]
abbrev topD (sh : Bool) (ds : List Deed) (i : Int) : D := .tup [.str "call", handleD sh ds, (E.num i).d]
/-! ### what they do -/
abbrev pr (sh : Bool) (p : List Int) (i : Int) : List Int := if sh then p ++ [i] else p
def rounds (sh : Bool) (n : Int) : Nat → Int → List Int → Int × List Int
  | 0, c, p => (c, p)
  | r + 1, c, p => rounds sh n r (cut (c + n)) (pr sh p (cut (c + n)))
def Deed.run (sh : Bool) : Deed → Int → List Int → Int × List Int
  | .put7 n, c, p => (cut (cut (c * 7) + n), pr sh p (cut (cut (c * 7) + n)))
  | .shw, c, p => (c, p ++ [c])
  | .choose n, c, p => if c < n then (c, p) else (n, pr sh p n)
  | .loop n r, c, p => rounds sh n r c p
def runs (sh : Bool) : List Deed → Int → List Int → Int × List Int
  | [], c, p => (c, p)
  | d :: ds, c, p => runs sh ds (d.run sh c p).1 (d.run sh c p).2
def Deed.ok : Deed → Prop
  | .put7 n => 0 ≤ n ∧ n < 100000
  | .shw => True
  | .choose n => 0 ≤ n ∧ n < 100000
  | .loop n r => (0 ≤ n ∧ n < 100000) ∧ r ≤ 4
theorem pr_len (sh : Bool) (p : List Int) (i : Int) : (pr sh p i).length ≤ p.length + 1 := by cases sh <;> simp [pr]
theorem rounds_len (sh : Bool) (n : Int) : ∀ (r : Nat) (c : Int) (p : List Int), (rounds sh n r c p).2.length ≤ p.length + r
  | 0, _, _ => Nat.le_refl _
  | r + 1, c, p => by
    have h1 := rounds_len sh n r (cut (c + n)) (pr sh p (cut (c + n)))
    have h2 := pr_len sh p (cut (c + n))
    show (rounds sh n r _ _).2.length ≤ _
    omega
theorem Deed.run_len (sh : Bool) {d : Deed} (h : d.ok) (c : Int) (p : List Int) : (d.run sh c p).2.length ≤ p.length + 4 := by
  cases d with
  | put7 n => exact Nat.le_trans (pr_len sh p _) (by show p.length + 1 ≤ p.length + 4; omega)
  | shw => show (p ++ [c]).length ≤ _; rw [List.length_append, List.length_singleton]; omega
  | choose n =>
    show (if c < n then (c, p) else (n, pr sh p n)).2.length ≤ _
    have := pr_len sh p n
    by_cases e : c < n
    · rw [if_pos e]; exact Nat.le_add_right _ _
    · rw [if_neg e]; exact Nat.le_trans this (by omega)
  | loop n r => exact Nat.le_trans (rounds_len sh n r c p) (Nat.add_le_add_left h.2 _)
theorem treeE_dep : ∀ ds : List Deed, (treeE ds).dep ≤ ds.length + 10
  | [] => by simp [treeE, E.dep]
  | d :: ds => by
    have h := treeE_dep ds
    have h2 : d.e.dep ≤ 10 := by cases d <;> simp [Deed.e, E.dep]
    simp only [treeE, E.dep, List.length_cons]
    omega
theorem Deed.put_z (d : Deed) (v : D) : d.e.put .z v = d.e := by cases d <;> rfl
theorem treeE_put : ∀ (ds : List Deed) (v : D), (treeE ds).put .z v = treeE ds
  | [], _ => rfl
  | d :: ds, v => by
    show E.lt .z (d.e.put .z v) (treeE ds) = E.lt .z d.e (treeE ds)
    rw [Deed.put_z]
theorem cut_small {i : Int} (h0 : -2147483648 ≤ i) (h1 : i < 2147483648) : cut i = i := by
  unfold cut
  rw [Int.emod_eq_of_lt (by omega) (by omega)]
  omega
theorem cut_cut (a b : Int) : cut (cut a + b) = cut (a + b) := by
  unfold cut
  omega
/-! ### the plain road runs the law's tree -/
def PR (s : PSt) (o : Int × Int × List Int) : Prop := ∃ N, PRun N s o.1 o.2.1 o.2.2
section
variable {s t : PSt} {o : Int × Int × List Int} {sh : Bool} {ks : List D} {e : D} {c i : Int} {l : Int} {p : List Int}
theorem PR.beg (t : PSt) (h : IsV s.cur false) (b : PBeg s t) (k : PR t o) : PR s o := k.imp' (· + 1) fun _ k => .step (.beg h b) k
theorem PR.go (t : PSt) (h : IsV s.cur true) (b : PGo s t) (k : PR t o) : PR s o := k.imp' (· + 1) fun _ k => .step (.go h b) k
/-- the argument that waits at the bottom -/
inductive PBot (c : Int) : D → Prop
  | num : PBot c (E.num c).d
  | quo : PBot c (E.quoted (vnum c)).d
theorem PBot.run {fs : List D} (h : PBot c e) (k : PR ⟨vnum c, fs, l, p⟩ o) : PR ⟨e, fs, l, p⟩ o := by
  cases h
  · exact k
  · exact PR.beg _ (.quoted _) .quoted k
theorem PR.quo {d : D} {fs : List D} (k : PR ⟨d, fs, l, p⟩ o) : PR ⟨(E.quoted d).d, fs, l, p⟩ o := PR.beg _ (.quoted _) .quoted k
abbrev pbase (sh : Bool) (e : D) : List D := [fHandle (lawH sh), fCall e]
abbrev pq (c : Int) : D := (E.quoted (vnum c)).d
theorem pb_len (h : ks.length ≤ 100) (sh : Bool) (e : D) : (ks ++ pbase sh e).length ≤ 1000 := by rw [List.length_append]; show ks.length + 2 ≤ 1000; omega
theorem p_get (hk : ∀ f ∈ ks, NoH f) (hz : ks.length ≤ 100) (hl : 3 ≤ l) (hb : PBot c e) (k : PR ⟨vnum c, ks ++ pbase sh (pq c), l - 1 - 1 - 1, p⟩ o) : PR ⟨getE.d, ks ++ pbase sh e, l, p⟩ o := by
  refine PR.beg _ (.ask _ _) (.ask (pb_len hz sh e)) ?_
  refine PR.go _ .unit (.ask (h := lawH sh) (by omega) hk (by show ks.length + 1 ≤ 1000; omega) (by intro h; cases h) (by show gE.dep ≤ 40; decide)) ?_
  show PR ⟨(E.fn .s (.call (.call (.quoted (kept (ks ++ [fHandle (lawH sh)]))) (.name .s)) (.name .s))).d, [fCall e], l - 1, p⟩ o
  refine PR.go _ (.fn _ _) (.call (ble_le rfl)) (hb.run ?_)
  refine PR.go _ (.num _) (.callFn (by omega) (ble_le rfl)) ?_
  show PR ⟨(E.call (.call (.quoted (kept (ks ++ [fHandle (lawH sh)]))) (.quoted (vnum c))) (.quoted (vnum c))).d, [], l - 1 - 1, p⟩ o
  refine PR.beg _ (.call _ _) (.call (ble_le rfl)) ?_
  refine PR.beg _ (.call _ _) (.call (ble_le rfl)) (PR.quo ?_)
  refine PR.go _ (.kept _) (.call (ble_le rfl)) (PR.quo ?_)
  refine PR.go _ (.num _) (.callK (by omega) (by simp only [List.length_append, List.length_cons, List.length_nil]; omega)) ?_
  rw [List.append_assoc]
  exact k
theorem p_put (hk : ∀ f ∈ ks, NoH f) (hz : ks.length ≤ 100) (hl : 3 ≤ l) (hp : p.length ≤ 900) (hb : PBot c e) (k : PR ⟨E.unit.d, ks ++ pbase sh (pq i), l - 1 - 1 - 1, pr sh p i⟩ o) : PR ⟨vnum i, fAsk .put :: (ks ++ pbase sh e), l, p⟩ o := by
  refine PR.go _ (.num _) (.ask (h := lawH sh) (by omega) hk (by show ks.length + 1 ≤ 1000; omega) (by intro h; cases h) (by cases sh <;> decide)) ?_
  have fin : PR ⟨(E.call (.call (.quoted (kept (ks ++ [fHandle (lawH sh)]))) .unit) (.quoted (vnum i))).d, [], l - 1 - 1, pr sh p i⟩ o := by
    refine PR.beg _ (.call _ _) (.call (ble_le rfl)) ?_
    refine PR.beg _ (.call _ _) (.call (ble_le rfl)) (PR.quo ?_)
    refine PR.go _ (.kept _) (.call (ble_le rfl)) ?_
    refine PR.go _ .unit (.callK (by omega) (by simp only [List.length_append, List.length_cons, List.length_nil]; omega)) ?_
    rw [List.append_assoc]
    exact k
  cases sh
  · show PR ⟨(E.fn .s (.call (.call (.quoted (kept (ks ++ [fHandle (lawH false)]))) .unit) (.quoted (vnum i)))).d, [fCall e], l - 1, p⟩ o
    refine PR.go _ (.fn _ _) (.call (ble_le rfl)) (hb.run ?_)
    exact PR.go _ (.num _) (.callFn (by omega) (ble_le rfl)) fin
  · show PR ⟨(E.fn .s (.print (.quoted (vnum i)) (.call (.call (.quoted (kept (ks ++ [fHandle (lawH true)]))) .unit) (.quoted (vnum i))))).d, [fCall e], l - 1, p⟩ o
    refine PR.go _ (.fn _ _) (.call (ble_le rfl)) (hb.run ?_)
    refine PR.go _ (.num _) (.callFn (by omega) (ble_le rfl)) ?_
    show PR ⟨(E.print (.quoted (vnum i)) (.call (.call (.quoted (kept (ks ++ [fHandle (lawH true)]))) .unit) (.quoted (vnum i)))).d, [], l - 1 - 1, p⟩ o
    refine PR.beg _ (.print _ _) (.print (ble_le rfl)) (PR.quo ?_)
    exact PR.go _ (.num _) (.print (by omega)) fin
theorem NoH.mk {s : Str} {r : List D} (h : decide (V.str s = V.str "handle") = false) : NoH (.tup (.str s :: r)) := ⟨s, r, rfl, h⟩
theorem noh_cons {f : D} (h : NoH f) (hk : ∀ f ∈ ks, NoH f) : ∀ g ∈ f :: ks, NoH g := fun g hg => by
  rcases List.mem_cons.mp hg with rfl | hg
  · exact h
  · exact hk _ hg
theorem cmul_r {i j : Int} (h : -1000000 < j) (h2 : j < 1000000) : CMul i j := .inr ⟨by omega, by omega⟩
/-- put of (got .. number) -/
theorem p_putAdd {n : Int} (hk : ∀ f ∈ ks, NoH f) (hz : ks.length ≤ 90) (hl : 6 ≤ l) (hp : p.length ≤ 900) (hb : PBot c e) (hn : 0 ≤ n ∧ n < 100000)
    (k : PR ⟨E.unit.d, ks ++ pbase sh (pq (cut (c + n))), l - 1 - 1 - 1 - 1 - 1 - 1, pr sh p (cut (c + n))⟩ o) : PR ⟨(E.ask .put (.op .add getE (.num n))).d, ks ++ pbase sh e, l, p⟩ o := by
  refine PR.beg _ (.ask _ _) (.ask (pb_len (by omega) sh e)) ?_
  refine PR.beg _ (.op _ _ _) (.op (pb_len (ks := fAsk .put :: ks) (by rw [List.length_cons]; omega) sh e)) ?_
  refine p_get (ks := fOp .add (E.num n).d :: fAsk .put :: ks) (noh_cons (.mk rfl) (noh_cons (.mk rfl) hk)) (by simp only [List.length_cons]; omega) (by omega) hb ?_
  refine PR.go _ (.num _) (.op (pb_len (ks := fAsk .put :: ks) (by rw [List.length_cons]; omega) sh _)) ?_
  refine PR.go _ (.num _) (.op2 (fun h => by cases h)) ?_
  exact p_put hk (by omega) (by omega) hp .quo k
theorem p_loop {n : Int} (hk : ∀ f ∈ ks, NoH f) (hz : ks.length ≤ 80) (hn : 0 ≤ n ∧ n < 100000) : ∀ (r : Nat) (l c : Int) (p : List Int) (e : D), r ≤ 4 → 7 * r + 1 ≤ l → p.length + r ≤ 900 → PBot c e →
    (∀ e' l', PBot (rounds sh n r c p).1 e' → l ≤ l' + 7 * r + 1 → PR ⟨E.unit.d, ks ++ pbase sh e', l', (rounds sh n r c p).2⟩ o) → PR ⟨vnum r, fCall2 (E.rc .h .n (bodyE n)).d :: (ks ++ pbase sh e), l, p⟩ o
  | r, l, c, p, e, hr, hl, hp, hb, k => by
    refine PR.go _ (.num _) (.callRc (by omega) (ble_le rfl)) ?_
    show PR ⟨(E.ite (.op .lt (.quoted (vnum r)) (.num 1)) .unit (.lt .z (.ask .put (.op .add getE (.num n))) (.call (.quoted (E.rc .h .n (bodyE n)).d) (.op .sub (.quoted (vnum r)) (.num 1))))).d, ks ++ pbase sh e, l - 1, p⟩ o
    refine PR.beg _ (.ite _ _ _) (.ite (pb_len (by omega) sh e)) ?_
    refine PR.beg _ (.op _ _ _) (.op (pb_len (ks := _ :: ks) (by rw [List.length_cons]; omega) sh e)) (PR.quo ?_)
    refine PR.go _ (.num _) (.op (pb_len (ks := _ :: ks) (by rw [List.length_cons]; omega) sh e)) ?_
    refine PR.go _ (.num _) (.op2 (fun h => by cases h)) ?_
    refine PR.go _ (.flag _) .ite ?_
    match r, hr, hl, hp, k with
    | 0, _, hl, hp, k => exact k e _ hb (by omega)
    | r + 1, hr, hl, hp, k =>
      rw [if_neg (by rw [decide_eq_true_eq]; omega)]
      refine PR.beg _ (.lt _ _ _) (.lt (pb_len (by omega) sh e)) ?_
      refine p_putAdd (ks := _ :: ks) (noh_cons (.mk rfl) hk) (by rw [List.length_cons]; omega) (by omega) (by omega) hb hn ?_
      refine PR.go _ .unit (.lt (x := .z) (f := .call (.quoted (E.rc .h .n (bodyE n)).d) (.op .sub (.quoted (vnum (r + 1 : Nat))) (.num 1))) (by simp [E.dep])) ?_
      show PR ⟨(E.call (.quoted (E.rc .h .n (bodyE n)).d) (.op .sub (.quoted (vnum (r + 1 : Nat))) (.num 1))).d, ks ++ pbase sh _, _, _⟩ o
      refine PR.beg _ (.call _ _) (.call (pb_len (by omega) sh _)) (PR.quo ?_)
      refine PR.go _ (.rc _ _ _) (.call (pb_len (by omega) sh _)) ?_
      refine PR.beg _ (.op _ _ _) (.op (pb_len (ks := _ :: ks) (by rw [List.length_cons]; omega) sh _)) (PR.quo ?_)
      refine PR.go _ (.num _) (.op (pb_len (ks := _ :: ks) (by rw [List.length_cons]; omega) sh _)) ?_
      refine PR.go _ (.num _) (.op2 (fun h => by cases h)) ?_
      show PR ⟨vnum (cut (((r + 1 : Nat) : Int) - 1)), _, _, _⟩ o
      rw [cut_small (by omega) (by omega), show ((r + 1 : Nat) : Int) - 1 = (r : Int) by omega]
      have h2 := pr_len sh p (cut (c + n))
      exact p_loop hk hz hn r _ _ _ _ (by omega) (by omega) (by omega) .quo fun e' l' hb' hl' => k e' l' hb' (by omega)
theorem p_deed {d : Deed} (h : d.ok) (hk : ∀ f ∈ ks, NoH f) (hz : ks.length ≤ 70) (hl : 30 ≤ l) (hp : p.length ≤ 800) (hb : PBot c e)
    (k : ∀ e' l', PBot (d.run sh c p).1 e' → l ≤ l' + 30 → PR ⟨E.unit.d, ks ++ pbase sh e', l', (d.run sh c p).2⟩ o) : PR ⟨d.e.d, ks ++ pbase sh e, l, p⟩ o := by
  cases d with
  | put7 n =>
    refine PR.beg _ (.ask _ _) (.ask (pb_len (by omega) sh e)) ?_
    refine PR.beg _ (.op _ _ _) (.op (pb_len (ks := fAsk .put :: ks) (by rw [List.length_cons]; omega) sh e)) ?_
    refine PR.beg _ (.op _ _ _) (.op (pb_len (ks := _ :: fAsk .put :: ks) (by simp only [List.length_cons]; omega) sh e)) ?_
    refine p_get (ks := fOp .mul (E.num 7).d :: fOp .add (E.num n).d :: fAsk .put :: ks) (noh_cons (.mk rfl) (noh_cons (.mk rfl) (noh_cons (.mk rfl) hk))) (by simp only [List.length_cons]; omega) (by omega) hb ?_
    refine PR.go _ (.num _) (.op (pb_len (ks := _ :: fAsk .put :: ks) (by simp only [List.length_cons]; omega) sh _)) ?_
    refine PR.go _ (.num _) (.op2 (fun _ => cmul_r (by decide) (by decide))) ?_
    refine PR.go _ (.num _) (.op (pb_len (ks := fAsk .put :: ks) (by simp only [List.length_cons]; omega) sh _)) ?_
    refine PR.go _ (.num _) (.op2 (fun h => by cases h)) ?_
    exact p_put hk (by omega) (by omega) (by omega) .quo (k _ _ .quo (by omega))
  | shw =>
    refine PR.beg _ (.print _ _) (.print (pb_len (by omega) sh e)) ?_
    refine p_get (ks := _ :: ks) (noh_cons (.mk rfl) hk) (by simp only [List.length_cons]; omega) (by omega) hb ?_
    exact PR.go _ (.num _) (.print (by omega)) (k _ _ .quo (by omega))
  | choose n =>
    refine PR.beg _ (.ite _ _ _) (.ite (pb_len (by omega) sh e)) ?_
    refine PR.beg _ (.op _ _ _) (.op (pb_len (ks := _ :: ks) (by rw [List.length_cons]; omega) sh e)) ?_
    refine p_get (ks := _ :: _ :: ks) (noh_cons (.mk rfl) (noh_cons (.mk rfl) hk)) (by simp only [List.length_cons]; omega) (by omega) hb ?_
    refine PR.go _ (.num _) (.op (pb_len (ks := _ :: ks) (by rw [List.length_cons]; omega) sh _)) ?_
    refine PR.go _ (.num _) (.op2 (fun h => by cases h)) ?_
    refine PR.go _ (.flag _) .ite ?_
    have k' : ∀ e' l', PBot (if c < n then (c, p) else (n, pr sh p n)).1 e' → l ≤ l' + 30 → PR ⟨E.unit.d, ks ++ pbase sh e', l', (if c < n then (c, p) else (n, pr sh p n)).2⟩ o := k
    by_cases e : c < n
    · rw [if_pos e] at k'
      rw [if_pos (decide_eq_true e)]
      exact k' _ _ .quo (by omega)
    · rw [if_neg e] at k'
      rw [if_neg (by rw [decide_eq_true_eq]; exact e)]
      refine PR.beg _ (.ask _ _) (.ask (pb_len (by omega) sh _)) ?_
      exact p_put hk (by omega) (by omega) (by omega) .quo (k' _ _ .quo (by omega))
  | loop n r =>
    obtain ⟨hn, hr⟩ := h
    refine PR.beg _ (.call _ _) (.call (pb_len (by omega) sh e)) ?_
    refine PR.go _ (.rc _ _ _) (.call (pb_len (by omega) sh _)) ?_
    exact p_loop hk (by omega) hn r l c p e hr (by omega) (by omega) hb fun e' l' hb' hl' => k e' l' hb' (by omega)
theorem p_tree : ∀ (ds : List Deed) (l c : Int) (p : List Int) (e : D), (∀ d ∈ ds, d.ok) → ds.length ≤ 20 → 30 * ds.length + 10 ≤ l → p.length + 4 * ds.length ≤ 800 → PBot c e →
    PR ⟨(treeE ds).d, pbase sh e, l, p⟩ (cut ((runs sh ds c p).1 - 1), (runs sh ds c p).1, (runs sh ds c p).2)
  | [], l, c, p, e, _, _, hl, hp, hb => by
    have hl' : (10 : Int) ≤ l := by simpa using hl
    refine PR.beg _ (.op _ _ _) (.op (ble_le rfl)) ?_
    refine p_get (ks := [_]) (noh_cons (.mk rfl) (fun _ h => nomatch h)) (ble_le rfl) (by omega) hb ?_
    refine PR.go _ (.num _) (.op (ble_le rfl)) ?_
    refine PR.go _ (.num _) (.op2 (fun h => by cases h)) ?_
    refine PR.go _ (.num _) (.handle (h := lawH sh) (ble_le rfl)) ?_
    show PR ⟨(E.fn .s (.pair (.quoted (vnum (cut (c - 1)))) (.name .s))).d, [fCall (pq c)], _, p⟩ _
    refine PR.go _ (.fn _ _) (.call (ble_le rfl)) (PR.quo ?_)
    refine PR.go _ (.num _) (.callFn (by omega) (ble_le rfl)) ?_
    show PR ⟨(E.pair (.quoted (vnum (cut (c - 1)))) (.quoted (vnum c))).d, [], _, p⟩ _
    refine PR.beg _ (.pairQ _ _) (.pair (ble_le rfl)) (PR.quo ?_)
    refine PR.go _ (.num _) (.pair (ble_le rfl)) (PR.quo ?_)
    exact PR.go _ (.num _) .pair2 ⟨0, .done⟩
  | d :: ds, l, c, p, e, h, hn, hl, hp, hb => by
    rw [List.length_cons] at hn hl hp
    have hd := h d List.mem_cons_self
    have hle := Deed.run_len sh hd c p
    refine PR.beg _ (.lt _ _ _) (.lt (ble_le rfl)) ?_
    refine p_deed (ks := [_]) hd (noh_cons (.mk rfl) (fun _ h => nomatch h)) (ble_le rfl) (by omega) (by omega) hb fun e' l' hb' hl' => ?_
    refine PR.go _ .unit (.lt (x := .z) (f := treeE ds) (Nat.le_trans (treeE_dep ds) (by omega))) ?_
    rw [treeE_put]
    exact p_tree ds _ _ _ e' (fun d h' => h d (List.mem_cons_of_mem _ h')) (by omega) (by omega) (by omega) hb'
/-- the plain road -/
theorem p_top {ds : List Deed} {i : Int} (h : ∀ d ∈ ds, d.ok) (hn : ds.length ≤ 13) : ∃ N, PRun N ⟨topD sh ds i, [], 2000, []⟩ (cut ((runs sh ds i []).1 - 1)) (runs sh ds i []).1 (runs sh ds i []).2 := by
  have : PR ⟨topD sh ds i, [], 2000, []⟩ (cut ((runs sh ds i []).1 - 1), (runs sh ds i []).1, (runs sh ds i []).2) := by
    refine PR.beg _ (.call _ _) (.callD (ble_le rfl)) ?_
    refine PR.beg _ (.handle _ _ _) (.handle (h := lawH sh) (ble_le rfl)) ?_
    exact p_tree ds 2000 i [] _ h (by omega) (by omega) (by simp only [List.length_nil]; omega) .num
  exact this
end
/-! ### the machine runs the law's tree -/
def MR (r : L3) (s : MO) (o : Int × Int × List Int) : Prop := ∃ N, MRun N r s (.tup [.str "pair", vi o.1, vi o.2.1]) o.2.2
section
variable {s t : MO} {r r' : L3} {o : Int × Int × List Int} {sh : Bool} {fs : List D} {e f0 env env0 v : D} {lc : List D} {c i : Int} {l : Int} {p : List Int}
theorem MR.beg (r : L3) (t : MO) (b : MBeg (.tup lc) env s r t) (k : MR r t o) : MR (ev (.tup lc) env) s o := k.imp' (· + 1) fun _ k => .step (.beg b) k
theorem MR.res {f v hd : D} {fs : List D} {lo : Option (List D)} (r : L3) (t : MO) (b : MRes f v ⟨hd, fs, lo, l, p⟩ r t) (k : MR r t o) : MR (rv v) ⟨hd, f :: fs, lo, l, p⟩ o := k.imp' (· + 1) fun _ k => .step (.res b) k
theorem MR.hdl {h : Hd} (k : MR (ev h.e.d (bnd1 h.x v env)) ⟨.non, fs, none, l, p⟩ o) : MR (rv v) ⟨mHd h env, [], some fs, l, p⟩ o := k.imp' (· + 1) fun _ k => .step .hdl k
/-- the call that waits at the bottom -/
def MBot (c : Int) (f0 : D) : Prop := ∃ f e env, f0 = mF "call" (.tup [.str "call", f, e]) env ∧ (e = (E.num c).d ∨ ∃ x n, e = (E.name x).d ∧ Look n env x (vi c))
theorem MBot.run {v hd : D} {lo : Option (List D)} (h : MBot c f0) (k : MR (rv (vi c)) ⟨hd, [fCall2 v], lo, l, p⟩ o) : MR (rv v) ⟨hd, [f0], lo, l, p⟩ o := by
  obtain ⟨f, e, env, rfl, h⟩ := h
  refine MR.res _ _ (.call (ble_le rfl)) ?_
  rcases h with rfl | ⟨x, n, rfl, lk⟩
  · exact MR.beg _ _ .num k
  · exact MR.beg _ _ (.name lk) k
abbrev mS (sh : Bool) (fs : List D) (f0 : D) (l : Int) (p : List Int) : MO := ⟨mHd (lawH sh) .non, fs, some [f0], l, p⟩
theorem m_get (hz : fs.length ≤ 900) (hl : 3 ≤ l) (hb : MBot c f0) (k : ∀ f1, MBot c f1 → MR (rv (vi c)) (mS sh fs f1 (l - 1 - 1 - 1) p) o) : MR (ev getE.d env) (mS sh fs f0 l p) o := by
  refine MR.beg _ _ (.ask (by omega)) ?_
  refine MR.beg _ _ .unit ?_
  refine MR.res _ _ (.ask (h := lawH sh) (by omega)) ?_
  refine MR.beg _ _ (.fn (x := .s)) ?_
  refine hb.run ?_
  refine MR.res _ _ (.call2 (.fn (by omega))) ?_
  refine MR.beg _ _ (.call (ble_le rfl)) ?_
  refine MR.beg _ _ (.call (ble_le rfl)) ?_
  refine MR.beg _ _ (.name (x := .k) (.there (x := .k) (by decide) .here)) ?_
  refine MR.res _ _ (.call (ble_le rfl)) ?_
  refine MR.beg _ _ (.name (x := .s) .here) ?_
  refine MR.res _ _ (.call2 (.kp (by omega))) ?_
  exact k _ ⟨_, _, _, rfl, .inr ⟨.s, _, rfl, .here⟩⟩
theorem m_put (hz : fs.length ≤ 900) (hl : 3 ≤ l) (hp : p.length ≤ 900) (hb : MBot c f0) {w : D} (k : ∀ f1, MBot i f1 → MR (rv vu) (mS sh fs f1 (l - 1 - 1 - 1) (pr sh p i)) o) : MR (rv (vi i)) (mS sh (mF "ask" (.tup [.str "ask", .str (Op.str .put), w]) env :: fs) f0 l p) o := by
  refine MR.res _ _ (.ask (h := lawH sh) (by omega)) ?_
  have fin : ∀ u : D, MR (ev (E.call (.call (.name .k) .unit) (.name .n)).d (bnd1 .s u (bnd1 .k (mkept (lawH sh) .non fs) (bnd1 .n (vi i) .non)))) ⟨.non, [], none, l - 1 - 1, pr sh p i⟩ o := fun u => by
    refine MR.beg _ _ (.call (ble_le rfl)) ?_
    refine MR.beg _ _ (.call (ble_le rfl)) ?_
    refine MR.beg _ _ (.name (x := .k) (.there (x := .k) (by decide) .here)) ?_
    refine MR.res _ _ (.call (ble_le rfl)) ?_
    refine MR.beg _ _ .unit ?_
    refine MR.res _ _ (.call2 (.kp (by omega))) ?_
    exact k _ ⟨_, _, _, rfl, .inr ⟨.n, _, rfl, .there (by decide) (.there (by decide) .here)⟩⟩
  cases sh
  · refine MR.beg _ _ (.fn (x := .s)) ?_
    refine hb.run ?_
    exact MR.res _ _ (.call2 (.fn (by omega))) (fin _)
  · refine MR.beg _ _ (.fn (x := .s)) ?_
    refine hb.run ?_
    refine MR.res _ _ (.call2 (.fn (by omega))) ?_
    refine MR.beg _ _ (.print (ble_le rfl)) ?_
    refine MR.beg _ _ (.name (x := .n) (.there (x := .n) (by decide) (.there (by decide) .here))) ?_
    exact MR.res _ _ (.print (by omega)) (fin _)
theorem m_putAdd {n : Int} (hz : fs.length ≤ 890) (hl : 6 ≤ l) (hp : p.length ≤ 900) (hb : MBot c f0) (hn : 0 ≤ n ∧ n < 100000)
    (k : ∀ f1, MBot (cut (c + n)) f1 → MR (rv vu) (mS sh fs f1 (l - 1 - 1 - 1 - 1 - 1 - 1) (pr sh p (cut (c + n)))) o) : MR (ev (E.ask .put (.op .add getE (.num n))).d env) (mS sh fs f0 l p) o := by
  refine MR.beg _ _ (.ask (by omega)) ?_
  refine MR.beg _ _ (.op (by rw [List.length_cons]; omega)) ?_
  refine m_get (by simp only [List.length_cons]; omega) (by omega) hb fun f1 hb1 => ?_
  refine MR.res _ _ (.op (by rw [List.length_cons]; omega)) ?_
  refine MR.beg _ _ .num ?_
  refine MR.res _ _ (.op2 (cmul_r (by omega) (by omega))) ?_
  exact m_put (by omega) (by omega) hp hb1 k
theorem m_loop {n : Int} {env1 : D} (hz : fs.length ≤ 880) (hn : 0 ≤ n ∧ n < 100000) : ∀ (r : Nat) (l c : Int) (p : List Int) (f0 : D), r ≤ 4 → 7 * r + 1 ≤ l → p.length + r ≤ 900 → MBot c f0 →
    (∀ f1 l', MBot (rounds sh n r c p).1 f1 → l ≤ l' + 7 * r + 1 → MR (rv vu) (mS sh fs f1 l' (rounds sh n r c p).2) o) → MR (rv (vi r)) (mS sh (fCall2 (mfn (.str (Nm.str .h)) .n (bodyE n).d env1) :: fs) f0 l p) o
  | r, l, c, p, f0, hr, hl, hp, hb, k => by
    refine MR.res _ _ (.call2 (.rc (h := .h) (by omega))) ?_
    refine MR.beg _ _ (.ite (by omega)) ?_
    refine MR.beg _ _ (.op (by rw [List.length_cons]; omega)) ?_
    refine MR.beg _ _ (.name (x := .n) .here) ?_
    refine MR.res _ _ (.op (by rw [List.length_cons]; omega)) ?_
    refine MR.beg _ _ .num ?_
    refine MR.res _ _ (.op2 (cmul_r (by decide) (by decide))) ?_
    refine MR.res _ _ .ite ?_
    match r, hr, hl, hp, k with
    | 0, _, hl, hp, k => exact MR.beg _ _ .unit (k f0 _ hb (by omega))
    | r + 1, hr, hl, hp, k =>
      rw [if_neg (by rw [decide_eq_true_eq]; omega)]
      refine MR.beg _ _ (.lt (x := .z) (by omega)) ?_
      refine m_putAdd (by rw [List.length_cons]; omega) (by omega) (by omega) hb hn fun f1 hb1 => ?_
      refine MR.res _ _ (.lt (x := .z)) ?_
      refine MR.beg _ _ (.call (by omega)) ?_
      refine MR.beg _ _ (.name (x := .h) (.there (by decide) (.there (by decide) .here))) ?_
      refine MR.res _ _ (.call (by omega)) ?_
      refine MR.beg _ _ (.op (by rw [List.length_cons]; omega)) ?_
      refine MR.beg _ _ (.name (x := .n) (.there (by decide) .here)) ?_
      refine MR.res _ _ (.op (by rw [List.length_cons]; omega)) ?_
      refine MR.beg _ _ .num ?_
      refine MR.res _ _ (.op2 (cmul_r (by decide) (by decide))) ?_
      show MR (rv (vi (cut (((r + 1 : Nat) : Int) - 1)))) _ _
      rw [cut_small (by omega) (by omega), show ((r + 1 : Nat) : Int) - 1 = (r : Int) by omega]
      have h2 := pr_len sh p (cut (c + n))
      exact m_loop hz hn r _ _ _ _ (by omega) (by omega) (by omega) hb1 fun e' l' hb' hl' => k e' l' hb' (by omega)
theorem m_deed {d : Deed} (h : d.ok) (hz : fs.length ≤ 870) (hl : 30 ≤ l) (hp : p.length ≤ 800) (hb : MBot c f0)
    (k : ∀ f1 l', MBot (d.run sh c p).1 f1 → l ≤ l' + 30 → MR (rv vu) (mS sh fs f1 l' (d.run sh c p).2) o) : MR (ev d.e.d env) (mS sh fs f0 l p) o := by
  cases d with
  | put7 n =>
    refine MR.beg _ _ (.ask (by omega)) ?_
    refine MR.beg _ _ (.op (by rw [List.length_cons]; omega)) ?_
    refine MR.beg _ _ (.op (by simp only [List.length_cons]; omega)) ?_
    refine m_get (by simp only [List.length_cons]; omega) (by omega) hb fun f1 hb1 => ?_
    refine MR.res _ _ (.op (by simp only [List.length_cons]; omega)) ?_
    refine MR.beg _ _ .num ?_
    refine MR.res _ _ (.op2 (cmul_r (by decide) (by decide))) ?_
    refine MR.res _ _ (.op (by simp only [List.length_cons]; omega)) ?_
    refine MR.beg _ _ .num ?_
    refine MR.res _ _ (.op2 (cmul_r (by have := h.1; omega) (by have := h.2; omega))) ?_
    exact m_put (by omega) (by omega) (by omega) hb1 fun f2 hb2 => k f2 _ hb2 (by omega)
  | shw =>
    refine MR.beg _ _ (.print (by omega)) ?_
    refine m_get (by simp only [List.length_cons]; omega) (by omega) hb fun f1 hb1 => ?_
    refine MR.res _ _ (.print (by omega)) ?_
    exact MR.beg _ _ .unit (k _ _ hb1 (by omega))
  | choose n =>
    refine MR.beg _ _ (.ite (by omega)) ?_
    refine MR.beg _ _ (.op (by simp only [List.length_cons]; omega)) ?_
    refine m_get (by simp only [List.length_cons]; omega) (by omega) hb fun f1 hb1 => ?_
    refine MR.res _ _ (.op (by simp only [List.length_cons]; omega)) ?_
    refine MR.beg _ _ .num ?_
    refine MR.res _ _ (.op2 (cmul_r (by have := h.1; omega) (by have := h.2; omega))) ?_
    refine MR.res _ _ .ite ?_
    have k' : ∀ e' l', MBot (if c < n then (c, p) else (n, pr sh p n)).1 e' → l ≤ l' + 30 → MR (rv vu) (mS sh fs e' l' (if c < n then (c, p) else (n, pr sh p n)).2) o := k
    by_cases e : c < n
    · rw [if_pos e] at k'
      rw [if_pos (decide_eq_true e)]
      exact MR.beg _ _ .unit (k' _ _ hb1 (by omega))
    · rw [if_neg e] at k'
      rw [if_neg (by rw [decide_eq_true_eq]; exact e)]
      refine MR.beg _ _ (.ask (by omega)) ?_
      refine MR.beg _ _ .num ?_
      exact m_put (by omega) (by omega) (by omega) hb1 fun f2 hb2 => k' f2 _ hb2 (by omega)
  | loop n r =>
    obtain ⟨hn, hr⟩ := h
    refine MR.beg _ _ (.call (by omega)) ?_
    refine MR.beg _ _ (.rc (h := .h) (x := .n)) ?_
    refine MR.res _ _ (.call (by omega)) ?_
    refine MR.beg _ _ .num ?_
    exact m_loop (by omega) hn r l c p f0 hr (by omega) (by omega) hb fun e' l' hb' hl' => k e' l' hb' (by omega)
theorem m_tree : ∀ (ds : List Deed) (l c : Int) (p : List Int) (f0 env : D), (∀ d ∈ ds, d.ok) → ds.length ≤ 20 → 30 * ds.length + 10 ≤ l → p.length + 4 * ds.length ≤ 800 → MBot c f0 →
    MR (ev (treeE ds).d env) (mS sh [] f0 l p) (cut ((runs sh ds c p).1 - 1), (runs sh ds c p).1, (runs sh ds c p).2)
  | [], l, c, p, f0, env, _, _, hl, hp, hb => by
    have hl' : (10 : Int) ≤ l := by simpa using hl
    refine MR.beg _ _ (.op (ble_le rfl)) ?_
    refine m_get (ble_le rfl) (by omega) hb fun f1 hb1 => ?_
    refine MR.res _ _ (.op (ble_le rfl)) ?_
    refine MR.beg _ _ .num ?_
    refine MR.res _ _ (.op2 (cmul_r (by decide) (by decide))) ?_
    refine MR.hdl ?_
    refine MR.beg _ _ (.fn (x := .s)) ?_
    refine hb1.run ?_
    refine MR.res _ _ (.call2 (.fn (by omega))) ?_
    refine MR.beg _ _ (.pair (ble_le rfl)) ?_
    refine MR.beg _ _ (.name (x := .x) (.there (x := .x) (by decide) .here)) ?_
    refine MR.res _ _ (.pair (ble_le rfl)) ?_
    refine MR.beg _ _ (.name (x := .s) .here) ?_
    exact MR.res _ _ .pair2 ⟨0, .done⟩
  | d :: ds, l, c, p, f0, env, h, hn, hl, hp, hb => by
    rw [List.length_cons] at hn hl hp
    have hd := h d List.mem_cons_self
    have hle := Deed.run_len sh hd c p
    refine MR.beg _ _ (.lt (x := .z) (ble_le rfl)) ?_
    refine m_deed hd (ble_le rfl) (by omega) (by omega) hb fun e' l' hb' hl' => ?_
    refine MR.res _ _ (.lt (x := .z)) ?_
    exact m_tree ds _ _ _ e' _ (fun d h' => h d (List.mem_cons_of_mem _ h')) (by omega) (by omega) (by omega) hb'
/-- the machine's road -/
theorem m_top {ds : List Deed} {i : Int} (h : ∀ d ∈ ds, d.ok) (hn : ds.length ≤ 13) : ∃ N, MRun N (ev (topD sh ds i) .non) ⟨.non, [], none, 2000, []⟩ (.tup [.str "pair", vi (cut ((runs sh ds i []).1 - 1)), vi (runs sh ds i []).1]) (runs sh ds i []).2 := by
  have : MR (ev (topD sh ds i) .non) ⟨.non, [], none, 2000, []⟩ (cut ((runs sh ds i []).1 - 1), (runs sh ds i []).1, (runs sh ds i []).2) := by
    refine MR.beg _ _ (.call (ble_le rfl)) ?_
    refine MR.beg _ _ (.handle (h := lawH sh)) ?_
    exact m_tree ds 2000 i [] _ _ h (by omega) (by omega) (by simp only [List.length_nil]; omega) ⟨_, _, _, rfl, .inl rfl⟩
  exact this
end
/-! ### the compiled road runs the law's tree -/
def At (rows : List D) (p : Nat) (l : List D) : Prop := ∀ i x, l[i]? = some x → rows[p + i]? = some x
theorem At.hd {rows l : List D} {p : Nat} {x : D} (h : At rows p (x :: l)) : rows[p]? = some x := h 0 x rfl
theorem At.tl {rows l : List D} {p : Nat} {x : D} (h : At rows p (x :: l)) : At rows (p + 1) l := fun i y e => by
  have := h (i + 1) y (by simpa using e)
  rw [show p + 1 + i = p + (i + 1) by omega]
  exact this
theorem At.left {rows l l2 : List D} {p : Nat} (h : At rows p (l ++ l2)) : At rows p l := fun i y e => h i y (by
  have := (List.getElem?_eq_some_iff.mp e).1
  rw [List.getElem?_append_left this]
  exact e)
theorem At.right {rows l l2 : List D} {p q : Nat} (h : At rows p (l ++ l2)) (e : q = p + l.length) : At rows q l2 := fun i y e' => by
  have := h (l.length + i) y (by
    rw [List.getElem?_append_right (Nat.le_add_right _ _), Nat.add_sub_cancel_left]
    exact e')
  rw [e, show p + l.length + i = p + (l.length + i) by omega]
  exact this
theorem At.all (rows : List D) : At rows 0 rows := fun i x e => by rw [Nat.zero_add]; exact e
/-- what the compiler made: block j is that of entry j -/
def Cmp (c : Cd) (qs : List (E × List Nm)) : Prop := ∀ j e ns, 1 ≤ j → qs[j]? = some (e, ns) → ∃ a q, 1 ≤ q ∧ c.bs[j]? = some (a, e.last ns 0 q) ∧ ∀ i y, (e.qs ns)[i]? = some y → qs[q + i]? = some y
def RR (c : Cd) (s : RO) (o : Int × Int × List Int) : Prop := ∃ N, RRun c N s o.1 o.2.1 o.2.2
section
variable {cd : Cd} {o : Int × Int × List Int} {sh : Bool} {a : Addr} {rows : List D} {pc : Nat} {b hd : D} {os fs : List D} {lo : Option (List D)} {f0 : D} {c i : Int} {l : Int} {p : List Int}
theorem RR.step {d : D} (t : RO) (ha : (a, rows) ∈ cd.bs) (hr : rows[pc]? = some d) (h : RRow cd d ⟨a, pc + 1, b, os, hd, fs, lo, l, p⟩ t) (k : RR cd t o) : RR cd ⟨a, pc, b, os, hd, fs, lo, l, p⟩ o := k.imp' (· + 1) fun _ k => .step ha hr h k
abbrev askR (o : Op) : D := .tup [.str "ask", .str o.str]
abbrev opR (s : Sg) : D := .tup [.str "op", .str s.str]
abbrev closeR (q : Nat) (r : Bool) : D := .tup [.str "close", .int q, .bl r]
abbrev loadR (n : Nat) : D := rowN "load" n
/-- the frame of the call that waits at the bottom -/
def RBot (cd : Cd) (c : Int) (f0 : D) : Prop := ∃ a rows i b, f0 = rF a i b [] ∧ (a, rows) ∈ cd.bs ∧ (rows[i]? = some (vi c) ∨ ∃ n, rows[i]? = some (loadR n) ∧ n ≤ 1000 ∧ LookR n b (vi c)) ∧ rows[i + 1]? = some (rowB "tail")
/-- the clause's function meets the argument at the bottom -/
theorem RBot.run {q : Nat} {b1 : D} {a1 : Addr} {r1 : List D} {os1 : List D} {rows0 : List D} (h : RBot cd c f0) (ha : (a, rows0) ∈ cd.bs) (hr : rows0[pc]? = some (rowB "return")) (hl : 0 < l) (hq : cd.bs[q]? = some (a1, r1))
    (k : RR cd ⟨a1, 0, .tup [vi c, b1], [], .non, [], none, l - 1, p⟩ o) : RR cd ⟨a, pc, b, rfn q false b1 :: os1, .non, [f0], none, l, p⟩ o := by
  obtain ⟨a2, r2, i2, b2, rfl, h2, h3, h4⟩ := h
  refine RR.step _ ha hr (.ret (.frame (ble_le rfl))) ?_
  have fin : RR cd ⟨a2, i2 + 1, b2, [vi c, rfn q false b1], .non, [], none, l, p⟩ o := RR.step _ h2 h4 (.tail (.fn hl (ble_le rfl) hq)) k
  rcases h3 with h3 | ⟨n, h3, hn, lk⟩
  · exact RR.step _ h2 h3 (.int (ble_le rfl)) fin
  · exact RR.step _ h2 h3 (.load hn lk (ble_le rfl)) fin
theorem bs_mem {j : Nat} {x : Addr × List D} (h : cd.bs[j]? = some x) : x ∈ cd.bs := List.mem_of_getElem? h
/-- the law's clauses, compiled -/
structure Cl (cd : Cd) (sh : Bool) (qs : List (E × List Nm)) : Prop where
  cmp : Cmp cd qs
  q2 : qs[2]? = some ((lawH sh).e, [.x])
  q3 : qs[3]? = some (gE, [.u, .k])
  q4 : qs[4]? = some (pE sh, [.n, .k])
  gb : cd.gb = 3
  pb : cd.pb = 4
abbrev rS (cd : Cd) (a : Addr) (pc : Nat) (b : D) (os fs : List D) (f0 : D) (l : Int) (p : List Int) : RO := ⟨a, pc, b, os, rHd 2 cd.cl .non, fs, some [f0], l, p⟩
theorem Cl.fn {qs : List (E × List Nm)} (C : Cl cd sh qs) {j : Nat} {x : Nm} {e : E} {ns : List Nm} (h1 : 1 ≤ j) (h : qs[j]? = some (.fn x e, ns)) : ∃ a q, cd.bs[j]? = some (a, [closeR q false, rowB "return"]) ∧ ∃ a1 q1, cd.bs[q]? = some (a1, e.last (ns ++ [x]) 0 q1) := by
  obtain ⟨a, q, hq, h2, h3⟩ := C.cmp j _ ns h1 h
  obtain ⟨a1, q1, _, h5, _⟩ := C.cmp q _ _ hq (h3 0 _ rfl)
  exact ⟨a, q, h2, a1, q1, h5⟩
variable {qs : List (E × List Nm)}
theorem r_get (C : Cl cd sh qs) (ha : (a, rows) ∈ cd.bs) (h : At rows pc [vu, askR .get]) (hz : fs.length ≤ 900) (ho : os.length ≤ 900) (hl : 3 ≤ l) (hb : RBot cd c f0)
    (k : ∀ f1, RBot cd c f1 → RR cd (rS cd a (pc + 1 + 1) b (vi c :: os) fs f1 (l - 1 - 1 - 1) p) o) : RR cd (rS cd a pc b os fs f0 l p) o := by
  obtain ⟨a3, q, h3, a5, q5, h5⟩ := C.fn (by decide) C.q3
  have m3 := bs_mem h3
  have m5 := bs_mem h5
  have h5' : cd.bs[q]? = some (a5, [loadR 1, loadR 0, rowB "call", loadR 0, rowB "tail"]) := h5
  refine RR.step _ ha h.hd (.unit (by omega)) ?_
  refine RR.step _ ha h.tl.hd (.ask (o := .get) (by omega) (by omega) (by show cd.bs[cd.gb]? = _; rw [C.gb]; exact h3)) ?_
  refine RR.step _ m3 rfl (.close (ble_le rfl)) ?_
  refine hb.run m3 rfl (by omega) h5' ?_
  have m5 := bs_mem h5'
  refine RR.step _ m5 rfl (.load (ble_le rfl) (.there .here) (ble_le rfl)) ?_
  refine RR.step _ m5 rfl (.load (ble_le rfl) .here (ble_le rfl)) ?_
  refine RR.step _ m5 rfl (.call (.kp (by omega) (ble_le rfl) (by omega))) ?_
  exact k _ ⟨_, _, _, _, rfl, m5, .inr ⟨0, rfl, ble_le rfl, .here⟩, rfl⟩
theorem r_put (C : Cl cd sh qs) (ha : (a, rows) ∈ cd.bs) (h : rows[pc]? = some (askR .put)) (hz : fs.length ≤ 900) (ho : os.length ≤ 900) (hl : 3 ≤ l) (hp : p.length ≤ 900) (hb : RBot cd c f0)
    (k : ∀ f1, RBot cd i f1 → RR cd (rS cd a (pc + 1) b (vu :: os) fs f1 (l - 1 - 1 - 1) (pr sh p i)) o) : RR cd (rS cd a pc b (vi i :: os) fs f0 l p) o := by
  obtain ⟨a3, q, h3, a5, q5, h5⟩ := C.fn (by decide) C.q4
  have m3 := bs_mem h3
  refine RR.step _ ha h (.ask (o := .put) (by omega) (by omega) (by show cd.bs[cd.pb]? = _; rw [C.pb]; exact h3)) ?_
  refine RR.step _ m3 rfl (.close (ble_le rfl)) ?_
  cases sh
  · have h5' : cd.bs[q]? = some (a5, [loadR 1, vu, rowB "call", loadR 2, rowB "tail"]) := h5
    have m5 := bs_mem h5'
    refine hb.run m3 rfl (by omega) h5' ?_
    refine RR.step _ m5 rfl (.load (ble_le rfl) (.there .here) (ble_le rfl)) ?_
    refine RR.step _ m5 rfl (.unit (ble_le rfl)) ?_
    refine RR.step _ m5 rfl (.call (.kp (by omega) (ble_le rfl) (by omega))) ?_
    exact k _ ⟨_, _, _, _, rfl, m5, .inr ⟨2, rfl, ble_le rfl, .there (.there .here)⟩, rfl⟩
  · have h5' : cd.bs[q]? = some (a5, [loadR 2, rowB "print", loadR 1, vu, rowB "call", loadR 2, rowB "tail"]) := h5
    have m5 := bs_mem h5'
    refine hb.run m3 rfl (by omega) h5' ?_
    refine RR.step _ m5 rfl (.load (ble_le rfl) (.there (.there .here)) (ble_le rfl)) ?_
    refine RR.step _ m5 rfl (.print (by omega)) ?_
    refine RR.step _ m5 rfl (.load (ble_le rfl) (.there .here) (ble_le rfl)) ?_
    refine RR.step _ m5 rfl (.unit (ble_le rfl)) ?_
    refine RR.step _ m5 rfl (.call (.kp (by omega) (ble_le rfl) (by omega))) ?_
    exact k _ ⟨_, _, _, _, rfl, m5, .inr ⟨2, rfl, ble_le rfl, .there (.there .here)⟩, rfl⟩
theorem r_putAdd {n : Int} (C : Cl cd sh qs) (ha : (a, rows) ∈ cd.bs) (h : At rows pc [vu, askR .get, vi n, opR .add, askR .put]) (hz : fs.length ≤ 900) (ho : os.length ≤ 890) (hl : 6 ≤ l) (hp : p.length ≤ 900) (hb : RBot cd c f0) (hn : 0 ≤ n ∧ n < 100000)
    (k : ∀ f1, RBot cd (cut (c + n)) f1 → RR cd (rS cd a (pc + 1 + 1 + 1 + 1 + 1) b (vu :: os) fs f1 (l - 1 - 1 - 1 - 1 - 1 - 1) (pr sh p (cut (c + n)))) o) : RR cd (rS cd a pc b os fs f0 l p) o := by
  refine r_get C ha (h.left (l := [_, _])) hz (by omega) (by omega) hb fun f1 hb1 => ?_
  refine RR.step _ ha h.tl.tl.hd (.int (by simp only [List.length_cons]; omega)) ?_
  refine RR.step _ ha h.tl.tl.tl.hd (.op (o := .add) (by omega) (cmul_r (by omega) (by omega))) ?_
  exact r_put C ha h.tl.tl.tl.tl.hd hz (by omega) (by omega) hp hb1 k
theorem idx_n (ns : List Nm) : idx .n (ns ++ [.h, .n]) = 0 := by simp [idx]
theorem idx_h (ns : List Nm) : idx .h (ns ++ [.h, .n] ++ [.z]) = 2 := by
  simp [idx, List.idxOf_cons]
  rfl
theorem idx_n2 (ns : List Nm) : idx .n (ns ++ [.h, .n] ++ [.z]) = 1 := by
  simp [idx, List.idxOf_cons]
  rfl
theorem body_rows (n : Int) (ns : List Nm) (q : Nat) : (bodyE n).last (ns ++ [.h, .n]) 0 q = [loadR 0, vi 1, opR .lt, rowN "unless" 6, vu, rowB "return", vu, askR .get, vi n, opR .add, askR .put, rowB "bind", loadR 2, loadR 1, vi 1, opR .sub, rowB "tail"] := by
  show [loadR (idx .n (ns ++ [.h, .n])), vi 1, opR .lt, rowN "unless" 6, vu, rowB "return", vu, askR .get, vi n, opR .add, askR .put, rowB "bind", loadR (idx .h (ns ++ [.h, .n] ++ [.z])), loadR (idx .n (ns ++ [.h, .n] ++ [.z])), vi 1, opR .sub, rowB "tail"] = _
  rw [idx_n, idx_h, idx_n2]
theorem r_loop {n : Int} {q : Nat} {ab : Addr} {b0 : D} (C : Cl cd sh qs) (hq : cd.bs[q]? = some (ab, [loadR 0, vi 1, opR .lt, rowN "unless" 6, vu, rowB "return", vu, askR .get, vi n, opR .add, askR .put, rowB "bind", loadR 2, loadR 1, vi 1, opR .sub, rowB "tail"])) (hz : fs.length ≤ 880) (ho : os.length ≤ 880) (hn : 0 ≤ n ∧ n < 100000) :
    ∀ (r : Nat) (l c : Int) (p : List Int) (f0 : D), r ≤ 4 → 7 * r + 1 ≤ l → p.length + r ≤ 900 → RBot cd c f0 →
    (∀ f1 l', RBot cd (rounds sh n r c p).1 f1 → l ≤ l' + 7 * r + 1 → RR cd (rS cd a pc b (vu :: os) fs f1 l' (rounds sh n r c p).2) o) → RR cd (rS cd ab 0 (.tup [vi r, .tup [rfn q true b0, b0]]) [] (rF a pc b os :: fs) f0 l p) o
  | r, l, c, p, f0, hr, hl, hp, hb, k => by
    have m := bs_mem hq
    refine RR.step _ m rfl (.load (ble_le rfl) .here (ble_le rfl)) ?_
    refine RR.step _ m rfl (.int (ble_le rfl)) ?_
    refine RR.step _ m rfl (.op (o := .lt) (ble_le rfl) (cmul_r (by decide) (by decide))) ?_
    refine RR.step _ m rfl .unless ?_
    match r, hr, hl, hp, k with
    | 0, _, hl, hp, k =>
      refine RR.step _ m rfl (.unit (ble_le rfl)) ?_
      refine RR.step _ m rfl (.ret (.frame (by omega))) ?_
      exact k f0 _ hb (by omega)
    | r + 1, hr, hl, hp, k =>
      rw [if_neg (by rw [decide_eq_true_eq]; omega)]
      have hA : At _ 6 _ := ((At.all _).tl.tl.tl.tl.tl.tl : At [loadR 0, vi 1, opR .lt, rowN "unless" 6, vu, rowB "return", vu, askR .get, vi n, opR .add, askR .put, rowB "bind", loadR 2, loadR 1, vi 1, opR .sub, rowB "tail"] 6 [vu, askR .get, vi n, opR .add, askR .put, rowB "bind", loadR 2, loadR 1, vi 1, opR .sub, rowB "tail"])
      refine r_putAdd C m (hA.left (l := [_, _, _, _, _])) (by rw [List.length_cons]; omega) (ble_le rfl) (by omega) (by omega) hb hn fun f1 hb1 => ?_
      refine RR.step _ m rfl .bind ?_
      refine RR.step _ m rfl (.load (ble_le rfl) (.there (.there .here)) (ble_le rfl)) ?_
      refine RR.step _ m rfl (.load (ble_le rfl) (.there .here) (ble_le rfl)) ?_
      refine RR.step _ m rfl (.int (ble_le rfl)) ?_
      refine RR.step _ m rfl (.op (o := .sub) (ble_le rfl) (cmul_r (by decide) (by decide))) ?_
      refine RR.step _ m rfl (.tail (.fn (by omega) (by rw [List.length_cons]; omega) hq)) ?_
      show RR cd (rS cd ab 0 (.tup [vi (cut (((r + 1 : Nat) : Int) - 1)), .tup [rfn q true b0, b0]]) [] (rF a pc b os :: fs) f1 _ _) o
      rw [cut_small (by omega) (by omega), show ((r + 1 : Nat) : Int) - 1 = (r : Int) by omega]
      have h2 := pr_len sh p (cut (c + n))
      exact r_loop C hq hz ho hn r _ _ _ _ (by omega) (by omega) (by omega) hb1 fun e' l' hb' hl' => k e' l' hb' (by omega)
theorem r_deed {d : Deed} {q : Nat} {ns : List Nm} (C : Cl cd sh qs) (h : d.ok) (ha : (a, rows) ∈ cd.bs) (hA : At rows pc (d.e.val ns pc q)) (hq1 : 1 ≤ q) (hq : ∀ i y, (d.e.qs ns)[i]? = some y → qs[q + i]? = some y) (hz : fs.length ≤ 870) (ho : os.length ≤ 800) (hl : 30 ≤ l) (hp : p.length ≤ 800) (hb : RBot cd c f0)
    (k : ∀ f1 l', RBot cd (d.run sh c p).1 f1 → l ≤ l' + 30 → RR cd (rS cd a (pc + (d.e.val ns pc q).length) b (vu :: os) fs f1 l' (d.run sh c p).2) o) : RR cd (rS cd a pc b os fs f0 l p) o := by
  cases d with
  | put7 n =>
    have hA : At rows pc [vu, askR .get, vi 7, opR .mul, vi n, opR .add, askR .put] := hA
    refine r_get C ha (hA.left (l := [_, _])) (by omega) (by omega) (by omega) hb fun f1 hb1 => ?_
    refine RR.step _ ha hA.tl.tl.hd (.int (by simp only [List.length_cons]; omega)) ?_
    refine RR.step _ ha hA.tl.tl.tl.hd (.op (o := .mul) (by omega) (cmul_r (by decide) (by decide))) ?_
    refine RR.step _ ha hA.tl.tl.tl.tl.hd (.int (by simp only [List.length_cons]; omega)) ?_
    refine RR.step _ ha hA.tl.tl.tl.tl.tl.hd (.op (o := .add) (by omega) (cmul_r (by have := h.1; omega) (by have := h.2; omega))) ?_
    exact r_put C ha hA.tl.tl.tl.tl.tl.tl.hd (by omega) (by omega) (by omega) (by omega) hb1 fun f2 hb2 => k f2 _ hb2 (by omega)
  | shw =>
    have hA : At rows pc [vu, askR .get, rowB "print", vu] := hA
    refine r_get C ha (hA.left (l := [_, _])) (by omega) (by omega) (by omega) hb fun f1 hb1 => ?_
    refine RR.step _ ha hA.tl.tl.hd (.print (by omega)) ?_
    exact RR.step _ ha hA.tl.tl.tl.hd (.unit (by omega)) (k f1 _ hb1 (by omega))
  | choose n =>
    have hA : At rows pc [vu, askR .get, vi n, opR .lt, rowN "unless" (pc + 4 + 1 + 1 + 1), vu, rowN "jump" (pc + 4 + 1 + 1 + 1 + 2), vi n, askR .put] := hA
    refine r_get C ha (hA.left (l := [_, _])) (by omega) (by omega) (by omega) hb fun f1 hb1 => ?_
    refine RR.step _ ha hA.tl.tl.hd (.int (by simp only [List.length_cons]; omega)) ?_
    refine RR.step _ ha hA.tl.tl.tl.hd (.op (o := .lt) (by omega) (cmul_r (by have := h.1; omega) (by have := h.2; omega))) ?_
    refine RR.step _ ha hA.tl.tl.tl.tl.hd .unless ?_
    have k' : ∀ e' l', RBot cd (if c < n then (c, p) else (n, pr sh p n)).1 e' → l ≤ l' + 30 → RR cd (rS cd a (pc + 9) b (vu :: os) fs e' l' (if c < n then (c, p) else (n, pr sh p n)).2) o := k
    by_cases e : c < n
    · rw [if_pos e] at k'
      rw [if_pos (decide_eq_true e)]
      refine RR.step _ ha hA.tl.tl.tl.tl.tl.hd (.unit (by omega)) ?_
      exact RR.step _ ha hA.tl.tl.tl.tl.tl.tl.hd .jump (k' _ _ hb1 (by omega))
    · rw [if_neg e] at k'
      rw [if_neg (by rw [decide_eq_true_eq]; exact e)]
      refine RR.step _ ha hA.tl.tl.tl.tl.tl.tl.tl.hd (.int (by omega)) ?_
      exact r_put C ha hA.tl.tl.tl.tl.tl.tl.tl.tl.hd (by omega) (by omega) (by omega) (by omega) hb1 fun f2 hb2 => k' f2 _ hb2 (by omega)
  | loop n r =>
    obtain ⟨hn, hr⟩ := h
    have hA : At rows pc [closeR q true, vi r, rowB "call"] := hA
    obtain ⟨ab, q1, _, hB, _⟩ := C.cmp q (bodyE n) (ns ++ [.h, .n]) hq1 (hq 0 _ rfl)
    rw [body_rows] at hB
    refine RR.step _ ha hA.hd (.close (by omega)) ?_
    refine RR.step _ ha hA.tl.hd (.int (by simp only [List.length_cons]; omega)) ?_
    refine RR.step _ ha hA.tl.tl.hd (.call (.fn (r := true) (by omega) (by omega) hB)) ?_
    exact r_loop C hB (by omega) (by omega) hn r _ c p f0 hr (by omega) (by omega) hb fun e' l' hb' hl' => k e' l' hb' (by omega)
theorem r_tree (C : Cl cd sh qs) (ha : (a, rows) ∈ cd.bs) : ∀ (ds : List Deed) (ns : List Nm) (pc q : Nat) (l c : Int) (p : List Int) (f0 b : D), (∀ d ∈ ds, d.ok) → 30 * ds.length + 10 ≤ l → p.length + 4 * ds.length ≤ 800 → RBot cd c f0 →
    At rows pc ((treeE ds).last ns pc q) → 1 ≤ q → (∀ i y, ((treeE ds).qs ns)[i]? = some y → qs[q + i]? = some y) →
    RR cd (rS cd a pc b [] [] f0 l p) (cut ((runs sh ds c p).1 - 1), (runs sh ds c p).1, (runs sh ds c p).2)
  | [], ns, pc, q, l, c, p, f0, b, _, hl, hp, hb, hA, _, _ => by
    have hl' : (10 : Int) ≤ l := by simpa using hl
    have hA : At rows pc [vu, askR .get, vi 1, opR .sub, rowB "return"] := hA
    obtain ⟨a3, q3, h3, a5, q5, h5⟩ := C.fn (by decide) C.q2
    have m3 := bs_mem h3
    have h5' : cd.bs[q3]? = some (a5, [loadR 1, loadR 0, rowB "pair", rowB "return"]) := h5
    have m5 := bs_mem h5'
    refine r_get C ha (hA.left (l := [_, _])) (ble_le rfl) (ble_le rfl) (by omega) hb fun f1 hb1 => ?_
    refine RR.step _ ha hA.tl.tl.hd (.int (ble_le rfl)) ?_
    refine RR.step _ ha hA.tl.tl.tl.hd (.op (o := .sub) (ble_le rfl) (cmul_r (by decide) (by decide))) ?_
    refine RR.step _ ha hA.tl.tl.tl.tl.hd (.ret (.hdl h3)) ?_
    refine RR.step _ m3 rfl (.close (ble_le rfl)) ?_
    refine hb1.run m3 rfl (by omega) h5' ?_
    refine RR.step _ m5 rfl (.load (ble_le rfl) (.there .here) (ble_le rfl)) ?_
    refine RR.step _ m5 rfl (.load (ble_le rfl) .here (ble_le rfl)) ?_
    refine RR.step _ m5 rfl (.pair (ble_le rfl)) ?_
    exact ⟨1, .fin m5 rfl⟩
  | d :: ds, ns, pc, q, l, c, p, f0, b, h, hl, hp, hb, hA, hq1, hq => by
    rw [List.length_cons] at hl hp
    have hd := h d List.mem_cons_self
    have hle := Deed.run_len sh hd c p
    have hA : At rows pc (d.e.val ns pc q ++ ([rowB "bind"] ++ (treeE ds).last (ns ++ [.z]) (pc + (d.e.val ns pc q).length + 1) (q + (d.e.qs ns).length))) := hA
    have hq : ∀ i y, (d.e.qs ns ++ (treeE ds).qs (ns ++ [.z]))[i]? = some y → qs[q + i]? = some y := hq
    refine r_deed C hd ha hA.left hq1 (fun i y e => hq i y (by
      have := (List.getElem?_eq_some_iff.mp e).1
      rw [List.getElem?_append_left this]
      exact e)) (ble_le rfl) (ble_le rfl) (by omega) (by omega) hb fun f1 l' hb' hl' => ?_
    have hB := hA.right rfl
    refine RR.step _ ha hB.hd .bind ?_
    exact r_tree C ha ds _ _ _ _ _ _ f1 _ (fun d h' => h d (List.mem_cons_of_mem _ h')) (by omega) (by omega) hb' (hB.right rfl) (by omega) fun i y e => by
      have := hq ((d.e.qs ns).length + i) y (by
        rw [List.getElem?_append_right (Nat.le_add_right _ _), Nat.add_sub_cancel_left]
        exact e)
      rw [Nat.add_assoc]
      exact this
/-- the compiled road -/
theorem r_top {ds : List Deed} {a0 : Addr} (C : Cl cd sh qs) (h0 : cd.bs[0]? = some (a0, [.tup [.str "handle", .int (1 : Nat), .int (2 : Nat), .adr cd.cl], vi i, rowB "tail"])) (q1 : qs[1]? = some (treeE ds, [])) (h : ∀ d ∈ ds, d.ok) (hn : ds.length ≤ 13) :
    ∃ N, RRun cd N ⟨a0, 0, .non, [], .non, [], none, 2000, []⟩ (cut ((runs sh ds i []).1 - 1)) (runs sh ds i []).1 (runs sh ds i []).2 := by
  have : RR cd ⟨a0, 0, .non, [], .non, [], none, 2000, []⟩ (cut ((runs sh ds i []).1 - 1), (runs sh ds i []).1, (runs sh ds i []).2) := by
    have m0 := bs_mem h0
    obtain ⟨a1, q, hq, h1, h2⟩ := C.cmp 1 _ _ (by decide) q1
    refine RR.step _ m0 rfl (.handle (ble_le rfl) h1) ?_
    exact r_tree C (bs_mem h1) ds [] 0 q 2000 i [] _ .non h (by omega) (by simp only [List.length_nil]; omega) ⟨_, _, _, _, rfl, m0, .inl rfl, rfl⟩ (At.all _) hq h2
  exact this
end
end K42
set_option maxRecDepth 100000
set_option maxHeartbeats 400000
namespace K42
open PySem PySem.Spec PyProof.Rows L2
/-! ### the compiler's loop, in plain Lean -/
def wt : List (E × List Nm) → Nat
  | [] => 0
  | q :: r => q.1.size + wt r
theorem wt_app : ∀ a b : List (E × List Nm), wt (a ++ b) = wt a + wt b
  | [], _ => (Nat.zero_add _).symm
  | q :: r, b => by
    show q.1.size + wt (r ++ b) = q.1.size + wt r + wt b
    rw [wt_app r b]
    omega
theorem wt_cons (q : E × List Nm) (r : List (E × List Nm)) : wt (q :: r) = q.1.size + wt r := rfl
theorem E.qs_wt : ∀ (e : E) (ns : List Nm), (e.qs ns).length + wt (e.qs ns) ≤ e.size
  | .num _, _ | .unit, _ | .name _, _ | .quoted _, _ => by simp [E.qs, E.size, wt]
  | .fn x e, ns => by simp [E.qs, E.size, wt]; omega
  | .rc h x e, ns => by simp [E.qs, E.size, wt]; omega
  | .call e f, ns | .pair e f, ns | .op _ e f, ns | .print e f, ns => by
    have h1 := E.qs_wt e ns
    have h2 := E.qs_wt f ns
    simp only [E.qs, E.size, List.length_append, wt_app]
    omega
  | .lt x e f, ns => by
    have h1 := E.qs_wt e ns
    have h2 := E.qs_wt f (ns ++ [x])
    simp only [E.qs, E.size, List.length_append, wt_app]
    omega
  | .ask _ e, ns => by
    have h1 := E.qs_wt e ns
    simp only [E.qs, E.size]
    omega
  | .ite e f g, ns => by
    have h1 := E.qs_wt e ns
    have h2 := E.qs_wt f ns
    have h3 := E.qs_wt g ns
    simp only [E.qs, E.size, List.length_append, wt_app]
    omega
abbrev QOk (n m : Nat) (y : E × List Nm) : Prop := y.1.clo y.2 ∧ y.1.dep ≤ n ∧ y.2.length + 2 * y.1.dep ≤ m
theorem E.qs_ok {n m : Nat} : ∀ (e : E) (ns : List Nm), e.clo ns → e.dep ≤ n → ns.length + 2 * e.dep ≤ m → ∀ y ∈ e.qs ns, QOk n m y
  | .num _, _, _, _, _ | .unit, _, _, _, _ | .name _, _, _, _, _ | .quoted _, _, _, _, _ => fun y h => by simp [E.qs] at h
  | .fn x e, ns, c, d, b => fun y h => by
    obtain rfl := List.mem_singleton.mp h
    simp only [E.dep] at d b
    exact ⟨c, by show e.dep ≤ n; omega, by show (ns ++ [x]).length + 2 * e.dep ≤ m; rw [List.length_append, List.length_singleton]; omega⟩
  | .rc h' x e, ns, c, d, b => fun y h => by
    obtain rfl := List.mem_singleton.mp h
    simp only [E.dep] at d b
    exact ⟨c, by show e.dep ≤ n; omega, by show (ns ++ [h', x]).length + 2 * e.dep ≤ m; simp only [List.length_append, List.length_cons, List.length_nil]; omega⟩
  | .call e f, ns, c, d, b | .pair e f, ns, c, d, b | .op _ e f, ns, c, d, b | .print e f, ns, c, d, b => fun y h => by
    simp only [E.dep] at d b
    rcases List.mem_append.mp h with h | h
    · exact E.qs_ok e ns c.1 (by omega) (by omega) y h
    · exact E.qs_ok f ns c.2 (by omega) (by omega) y h
  | .lt x e f, ns, c, d, b => fun y h => by
    simp only [E.dep] at d b
    rcases List.mem_append.mp h with h | h
    · exact E.qs_ok e ns c.1 (by omega) (by omega) y h
    · exact E.qs_ok f (ns ++ [x]) c.2 (by omega) (by rw [List.length_append, List.length_singleton]; omega) y h
  | .ask _ e, ns, c, d, b => fun y h => by
    simp only [E.dep] at d b
    exact E.qs_ok e ns c (by omega) (by omega) y h
  | .ite e f g, ns, c, d, b => fun y h => by
    simp only [E.dep] at d b
    rcases List.mem_append.mp h with h | h
    · exact E.qs_ok e ns c.1 (by omega) (by omega) y h
    · rcases List.mem_append.mp h with h | h
      · exact E.qs_ok f ns c.2.1 (by omega) (by omega) y h
      · exact E.qs_ok g ns c.2.2 (by omega) (by omega) y h
/-- the blocks so far, the queue -/
structure CInv (bs : List (Addr × List D)) (qs : List (E × List Nm)) : Prop where
  le : bs.length ≤ qs.length
  pos : 1 ≤ bs.length
  bl : ∀ j e ns, 1 ≤ j → j < bs.length → qs[j]? = some (e, ns) → ∃ a q, 1 ≤ q ∧ bs[j]? = some (a, e.last ns 0 q) ∧ ∀ i y, (e.qs ns)[i]? = some y → qs[q + i]? = some y
  ok : ∀ y ∈ qs, QOk 24 100 y
  bd : qs.length + wt (qs.drop bs.length) ≤ 3000
theorem get_left {α : Type} {l r : List α} {i : Nat} {x : α} (h : l[i]? = some x) : (l ++ r)[i]? = some x := by
  have := (List.getElem?_eq_some_iff.mp h).1
  rw [List.getElem?_append_left this]
  exact h
theorem drop_at {α : Type} {l : List α} {n : Nat} {x : α} (h : l[n]? = some x) : l.drop n = x :: l.drop (n + 1) := by
  obtain ⟨h1, h2⟩ := List.getElem?_eq_some_iff.mp h
  rw [List.drop_eq_getElem_cons h1, h2]
theorem CInv.step {bs : List (Addr × List D)} {qs : List (E × List Nm)} {e : E} {ns : List Nm} {a : Addr} (I : CInv bs qs) (h : qs[bs.length]? = some (e, ns)) :
    CInv (bs ++ [(a, e.last ns 0 qs.length)]) (qs ++ e.qs ns) ∧ wt ((qs ++ e.qs ns).drop (bs.length + 1)) < wt (qs.drop bs.length) := by
  have hlt := (List.getElem?_eq_some_iff.mp h).1
  have w1 : wt (qs.drop bs.length) = e.size + wt (qs.drop (bs.length + 1)) := by rw [drop_at h]; rfl
  have w2 : wt ((qs ++ e.qs ns).drop (bs.length + 1)) = wt (qs.drop (bs.length + 1)) + wt (e.qs ns) := by
    rw [List.drop_append_of_le_length hlt, wt_app]
  have w3 := E.qs_wt e ns
  have w4 := E.size_pos e
  have w5 : wt (e.qs ns) < e.size := by
    cases hq : e.qs ns with
    | nil => exact w4
    | cons y r => rw [hq] at w3; simp only [List.length_cons] at w3; omega
  have me : (e, ns) ∈ qs := List.mem_of_getElem? h
  obtain ⟨o1, o2, o3⟩ := I.ok _ me
  refine ⟨⟨?_, ?_, ?_, ?_, ?_⟩, by rw [w1, w2]; omega⟩
  · simp only [List.length_append, List.length_cons, List.length_nil]; omega
  · simp only [List.length_append, List.length_cons, List.length_nil]; omega
  · intro j e' ns' h1 h2 h3
    rw [List.length_append, List.length_singleton] at h2
    by_cases hj : j < bs.length
    · have h3' : qs[j]? = some (e', ns') := by
        rw [List.getElem?_append_left (by omega)] at h3
        exact h3
      obtain ⟨a', q, b1, b2, b3⟩ := I.bl j e' ns' h1 hj h3'
      exact ⟨a', q, b1, get_left b2, fun i y hy => get_left (b3 i y hy)⟩
    · obtain rfl : j = bs.length := by omega
      rw [get_left h] at h3
      cases h3
      refine ⟨a, qs.length, by have := I.pos; omega, by rw [List.getElem?_append_right (Nat.le_refl _), Nat.sub_self]; rfl, fun i y hy => ?_⟩
      rw [List.getElem?_append_right (Nat.le_add_right _ _), Nat.add_sub_cancel_left]
      exact hy
  · intro y hy
    rcases List.mem_append.mp hy with hy | hy
    · exact I.ok y hy
    · exact E.qs_ok e ns o1 o2 o3 y hy
  · have := I.bd
    rw [List.length_append, show (bs ++ [(a, e.last ns 0 qs.length)]).length = bs.length + 1 by rw [List.length_append, List.length_singleton], w2]
    omega
theorem CInv.cmp {c : Cd} {qs : List (E × List Nm)} (I : CInv c.bs qs) (h : c.bs.length = qs.length) : Cmp c qs := fun j e ns h1 h2 => I.bl j e ns h1 (by rw [h]; exact (List.getElem?_eq_some_iff.mp h2).1) h2
/-- the law's entries -/
theorem Deed.clo (d : Deed) (ns : List Nm) : d.e.clo ns := by
  cases d <;> simp [Deed.e, E.clo]
theorem treeE_clo : ∀ (ds : List Deed) (ns : List Nm), (treeE ds).clo ns
  | [], _ => ⟨trivial, trivial⟩
  | d :: ds, ns => ⟨d.clo ns, treeE_clo ds _⟩
theorem treeE_size : ∀ ds : List Deed, (treeE ds).size ≤ 30 * ds.length + 10
  | [] => by simp [treeE, E.size]
  | d :: ds => by
    have h := treeE_size ds
    have h2 : d.e.size ≤ 29 := by cases d <;> simp [Deed.e, E.size]
    simp only [treeE, E.size, List.length_cons]
    omega
abbrev lawQ (sh : Bool) (ds : List Deed) : List (E × List Nm) := [(treeE ds, []), ((lawH sh).e, [.x]), (gE, [.u, .k]), (pE sh, [.n, .k])]
theorem CInv.start {sh : Bool} {ds : List Deed} {a : Addr} {rows : List D} (hn : ds.length ≤ 13) : CInv [(a, rows)] ((.unit, []) :: lawQ sh ds) := by
  have h1 := treeE_dep ds
  have h2 := treeE_size ds
  have h3 : (pE sh).size ≤ 10 := by cases sh <;> decide
  have h4 : (pE sh).dep ≤ 7 := by cases sh <;> decide
  have h5 : (pE sh).clo [.n, .k] := by cases sh <;> simp [pE, E.clo]
  refine ⟨by simp, by simp, fun j e ns h1 h2 => by simp at h2; omega, fun y hy => ?_, ?_⟩
  · simp only [List.mem_cons, List.not_mem_nil, or_false] at hy
    rcases hy with rfl | rfl | rfl | rfl | rfl
    · exact ⟨trivial, by decide, by decide⟩
    · exact ⟨treeE_clo ds [], by show (treeE ds).dep ≤ 24; omega, by show 0 + 2 * (treeE ds).dep ≤ 100; omega⟩
    · exact ⟨by simp [E.clo], by show E.dep (.fn .s (.pair (.name .x) (.name .s))) ≤ 24; decide, by show 1 + 2 * E.dep (.fn .s (.pair (.name .x) (.name .s))) ≤ 100; decide⟩
    · exact ⟨by simp [gE, E.clo], by decide, by decide⟩
    · exact ⟨h5, by show (pE sh).dep ≤ 24; omega, by show 2 + 2 * (pE sh).dep ≤ 100; omega⟩
  · show 5 + ((treeE ds).size + (E.size (.fn .s (.pair (.name .x) (.name .s))) + (gE.size + ((pE sh).size + 0)))) ≤ 3000
    have : gE.size = 6 := rfl
    have : E.size (.fn .s (.pair (.name .x) (.name .s))) = 4 := rfl
    omega
end K42
namespace K42
open PySem PySem.Spec PyProof.Rows L2
/-! the walk of readings, by own words (local) -/
local macro_rules | `(tactic| walk_at "lk") => `(tactic| focus (first | ((with_reducible apply sql_of); (walk_at "lk")) | fail))
local macro_rules | `(tactic| walk_at "lk") => `(tactic| focus (first | ((with_reducible apply sqt_of); (walk_at "lk")) | fail))
local macro_rules | `(tactic| walk_at "lk") => `(tactic| focus (first | ((with_reducible apply sql_same); assumption; (walk_at "lk")) | fail))
local macro_rules | `(tactic| walk_at "lk") => `(tactic| focus (first | ((with_reducible apply sqt_le); assumption; (walk_at "lk")) | fail))
local macro_rules | `(tactic| walk_at "lk") => `(tactic| focus (first | ((with_reducible apply sqt_same); assumption; (walk_at "lk")) | fail))
local macro_rules | `(tactic| walk_at "lk") => `(tactic| focus (first | ((with_reducible apply get_same); assumption; (walk_at "lk")) | fail))
local macro_rules | `(tactic| walk_at "lk") => `(tactic| focus (first | ((with_reducible apply get_ne); (rotate_left 1); (walk_at "ne"); (walk_at "lk")) | fail))
local macro_rules | `(tactic| walk_at "lk") => `(tactic| focus (first | ((with_reducible apply get_kind); (walk_at "lk"); (walk_at "lk"); (exact rfl)) | fail))
local macro_rules | `(tactic| walk_at "lk") => `(tactic| focus (first | ((with_reducible apply sql_kind); (rotate_left 1); (walk_at "lk"); (exact rfl); (walk_at "lk")) | fail))
local macro_rules | `(tactic| walk_at "lk") => `(tactic| focus (first | ((with_reducible apply sqt_kind); (rotate_left 1); (walk_at "lk"); (exact rfl); (walk_at "lk")) | fail))
local macro_rules | `(tactic| walk_at "lk") => `(tactic| focus (first | ((with_reducible apply sql_new); (rotate_left 1); assumption; (walk_at "lk")) | fail))
local macro_rules | `(tactic| walk_at "lk") => `(tactic| focus (first | ((with_reducible apply sqt_new); (rotate_left 1); assumption; (walk_at "lk")) | fail))
local macro_rules | `(tactic| walk_at "lk") => `(tactic| focus (first | ((with_reducible apply get_new); (rotate_left 1); assumption; (walk_at "lk")) | fail))
local macro_rules | `(tactic| walk_at "lk") => `(tactic| focus (first | exact sql_of upd_same | fail))
local macro_rules | `(tactic| walk_at "lk") => `(tactic| focus (first | exact sqt_of upd_same | fail))
local macro_rules | `(tactic| walk_at "lk") => `(tactic| focus (first | exact upd_same | fail))
local macro_rules | `(tactic| walk_at "lk") => `(tactic| focus (first | assumption | fail))
local macro_rules | `(tactic| walk_at "ne") => `(tactic| focus (first | ((with_reducible apply fr_ne); assumption; (walk_at "lk")) | fail))
local macro_rules | `(tactic| walk_at "ne") => `(tactic| focus (first | ((with_reducible apply ne_fr); assumption; (walk_at "lk")) | fail))
local macro_rules | `(tactic| walk_at "ne") => `(tactic| focus (first | exact Ne.symm (by assumption) | fail))
local macro_rules | `(tactic| walk_at "ne") => `(tactic| focus (first | assumption | fail))
local macro_rules | `(tactic| walk_at "le") => `(tactic| focus (first | ((with_reducible apply Le.trans); (rotate_left 1); assumption; (walk_at "le")) | fail))
local macro_rules | `(tactic| walk_at "le") => `(tactic| focus (first | ((with_reducible apply Le.after); (rotate_left 1); assumption; (walk_at "le")) | fail))
local macro_rules | `(tactic| walk_at "le") => `(tactic| focus (first | ((with_reducible apply le_kind); (rotate_left 1); (walk_at "lk"); (exact rfl); (walk_at "le")) | fail))
local macro_rules | `(tactic| walk_at "le") => `(tactic| focus (first | ((with_reducible apply Le.new); (rotate_left 1); assumption; (walk_at "le")) | fail))
local macro_rules | `(tactic| walk_at "le") => `(tactic| focus (first | assumption | fail))
local macro_rules | `(tactic| walk_at "le") => `(tactic| focus (first | exact Le.refl | fail))
local macro_rules | `(tactic| walk_at "sm") => `(tactic| focus (first | ((with_reducible apply Same.trans); (rotate_left 1); assumption; (walk_at "sm")) | fail))
local macro_rules | `(tactic| walk_at "sm") => `(tactic| focus (first | ((with_reducible apply Same.mut); (rotate_left 1); assumption; (walk_at "sm")) | fail))
local macro_rules | `(tactic| walk_at "sm") => `(tactic| focus (first | ((with_reducible apply Same.new); (rotate_left 1); assumption; (walk_at "sm")) | fail))
local macro_rules | `(tactic| walk_at "sm") => `(tactic| focus (first | assumption | fail))
local macro_rules | `(tactic| walk_at "sm") => `(tactic| focus (first | exact Same.refl _ | fail))
local macro_rules | `(tactic| walk_at "rp") => `(tactic| focus (first | ((apply Reps.cons); (walk_at "rp"); (walk_at "rp")) | fail))
local macro_rules | `(tactic| walk_at "rp") => `(tactic| focus (first | ((apply Rep.mk); (walk_at "lk"); (walk_at "rp")) | fail))
local macro_rules | `(tactic| walk_at "rp") => `(tactic| focus (first | ((with_reducible apply Reps.mono); (rotate_left 1); assumption; (walk_at "le")) | fail))
local macro_rules | `(tactic| walk_at "rp") => `(tactic| focus (first | ((with_reducible apply Rep.mono); (rotate_left 1); assumption; (walk_at "le")) | fail))
local macro_rules | `(tactic| walk_at "rp") => `(tactic| focus (first | exact ⟨_, _, rfl, rfl, rfl⟩ | fail))
local macro_rules | `(tactic| walk_at "rp") => `(tactic| focus (first | exact rfl | fail))
local macro_rules | `(tactic| walk_at "rp") => `(tactic| focus (first | assumption | fail))
local macro_rules | `(tactic| walk_at "fr0") => `(tactic| focus (first | ((with_reducible apply free_new); (with_reducible apply free_new); (with_reducible apply free_new); assumption) | fail))
local macro_rules | `(tactic| walk_at "fr0") => `(tactic| focus (first | ((with_reducible apply free_new); (with_reducible apply free_new); assumption) | fail))
local macro_rules | `(tactic| walk_at "fr0") => `(tactic| focus (first | ((with_reducible apply free_new); assumption) | fail))
local macro_rules | `(tactic| walk_at "fr0") => `(tactic| focus (first | assumption | fail))
local macro_rules | `(tactic| walk_at "fr") => `(tactic| focus (first | ((with_reducible apply free_new); (with_reducible apply free_new); (with_reducible apply free_new); (with_reducible apply free_back); assumption; (walk_at "fr0")) | fail))
local macro_rules | `(tactic| walk_at "fr") => `(tactic| focus (first | ((with_reducible apply free_new); (with_reducible apply free_new); (with_reducible apply free_back); assumption; (walk_at "fr0")) | fail))
local macro_rules | `(tactic| walk_at "fr") => `(tactic| focus (first | ((with_reducible apply free_new); (with_reducible apply free_back); assumption; (walk_at "fr0")) | fail))
local macro_rules | `(tactic| walk_at "fr") => `(tactic| focus (first | ((with_reducible apply free_back); assumption; (walk_at "fr0")) | fail))
local macro_rules | `(tactic| walk_at "fr") => `(tactic| focus (first | (walk_at "fr0") | fail))
local macro_rules | `(tactic| walk_at "w1") => `(tactic| (first | with_reducible refine' w_rg2' ?_ | fail))
local macro_rules | `(tactic| walk_at "w1") => `(tactic| (first | with_reducible refine' w_rg2 ?_ | fail))
local macro_rules | `(tactic| walk_at "w1") => `(tactic| (first | with_reducible refine' w_rg1 ?_ | fail))
local macro_rules | `(tactic| walk_at "w1") => `(tactic| (first | with_reducible refine' w_iRevR ?_ | fail))
local macro_rules | `(tactic| walk_at "w1") => `(tactic| (first | with_reducible refine' w_iRng1 ?_ | fail))
local macro_rules | `(tactic| walk_at "w1") => `(tactic| (first | with_reducible refine' w_iZip ?_ | fail))
local macro_rules | `(tactic| walk_at "w1") => `(tactic| (first | with_reducible refine' w_iTup ?_ | fail))
local macro_rules | `(tactic| walk_at "w1") => `(tactic| (first | with_reducible refine' w_iList ?_ | fail))
local macro_rules | `(tactic| walk_at "w1") => `(tactic| (first | with_reducible refine' w_lc ?_ | fail))
local macro_rules | `(tactic| walk_at "w1") => `(tactic| (first | with_reducible refine' w_while ?_ | fail))
local macro_rules | `(tactic| walk_at "w1") => `(tactic| (first | with_reducible refine' w_lock ?_ | fail))
local macro_rules | `(tactic| walk_at "w1") => `(tactic| (first | with_reducible refine' w_iKeys ?_ | fail))
local macro_rules | `(tactic| walk_at "w1") => `(tactic| (first | with_reducible refine' w_for ?_ | fail))
local macro_rules | `(tactic| walk_at "w1") => `(tactic| (first | with_reducible refine' w_gnil ?_ | fail))
local macro_rules | `(tactic| walk_at "w1") => `(tactic| (first | with_reducible refine' w_dnin ?_ | fail))
local macro_rules | `(tactic| walk_at "w1") => `(tactic| (first | with_reducible refine' w_dput ?_ | fail))
local macro_rules | `(tactic| walk_at "w1") => `(tactic| (first | ((with_reducible refine' w_gfld1 ?h ?hl ?_); (case h => (walk_at "lk")); (case hl => first | exact rfl | assumption)) | fail))
local macro_rules | `(tactic| walk_at "w1") => `(tactic| (first | with_reducible refine' w_gfld ?_ | fail))
local macro_rules | `(tactic| walk_at "w1") => `(tactic| (first | with_reducible refine' w_gname ?_ | fail))
local macro_rules | `(tactic| walk_at "w1") => `(tactic| (first | with_reducible refine' w_gcons ?_ | fail))
local macro_rules | `(tactic| walk_at "w1") => `(tactic| (first | ((with_reducible refine' w_gtup ?h ?hn ?_); (case h => (walk_at "lk")); (case hn => exact rfl)) | fail))
local macro_rules | `(tactic| walk_at "w1") => `(tactic| (first | with_reducible refine' w_asgT ?_ | fail))
local macro_rules | `(tactic| walk_at "w1") => `(tactic| (first | with_reducible refine' w_sub ?_ | fail))
local macro_rules | `(tactic| walk_at "w1") => `(tactic| (first | with_reducible refine' w_call ?_ | fail))
local macro_rules | `(tactic| walk_at "w1") => `(tactic| (first | ((with_reducible refine' w_meth1 ?h ?hl ?_); (case h => (walk_at "lk")); (case hl => first | exact rfl | assumption)) | fail))
local macro_rules | `(tactic| walk_at "w1") => `(tactic| (first | with_reducible refine' w_dget ?_ | fail))
local macro_rules | `(tactic| walk_at "w1") => `(tactic| (first | with_reducible refine' w_pnil ?_ | fail))
local macro_rules | `(tactic| walk_at "w1") => `(tactic| (first | with_reducible refine' w_pcons ?_ | fail))
local macro_rules | `(tactic| walk_at "w1") => `(tactic| (first | with_reducible refine' w_methR ?_ | fail))
local macro_rules | `(tactic| walk_at "w1") => `(tactic| (first | with_reducible refine' w_meth ?_ | fail))
local macro_rules | `(tactic| walk_at "w1") => `(tactic| (first | ((with_reducible refine' w_truL ?h ?_); (case h => (walk_at "lk"))) | fail))
local macro_rules | `(tactic| walk_at "w1") => `(tactic| (first | ((with_reducible refine' w_truR ?h ?_); (case h => (walk_at "lk"))) | fail))
local macro_rules | `(tactic| walk_at "w1") => `(tactic| (first | with_reducible refine' w_truB ?_ | fail))
local macro_rules | `(tactic| walk_at "w1") => `(tactic| (first | with_reducible refine' w_intB ?_ | fail))
local macro_rules | `(tactic| walk_at "w1") => `(tactic| (first | with_reducible refine' w_intI ?_ | fail))
local macro_rules | `(tactic| walk_at "w1") => `(tactic| (first | with_reducible refine' w_max ?_ | fail))
local macro_rules | `(tactic| walk_at "w1") => `(tactic| (first | with_reducible refine' w_abs ?_ | fail))
local macro_rules | `(tactic| walk_at "w1") => `(tactic| (first | ((with_reducible refine' w_tupT ?h ?_); (case h => (walk_at "lk"))) | fail))
local macro_rules | `(tactic| walk_at "w1") => `(tactic| (first | ((with_reducible refine' w_tupL ?h (fun q hq => ?_)); (case h => (walk_at "lk"))) | fail))
local macro_rules | `(tactic| walk_at "w1") => `(tactic| (first | ((with_reducible refine' w_listL ?h (fun q hq => ?_)); (case h => (walk_at "lk"))) | fail))
local macro_rules | `(tactic| walk_at "w1") => `(tactic| (first | ((with_reducible refine' w_listT ?h (fun q hq => ?_)); (case h => (walk_at "lk"))) | fail))
local macro_rules | `(tactic| walk_at "w1") => `(tactic| (first | ((with_reducible refine' w_lenL ?h ?_); (case h => (walk_at "lk"))) | fail))
local macro_rules | `(tactic| walk_at "w1") => `(tactic| (first | ((with_reducible refine' w_lenT ?h ?_); (case h => (walk_at "lk"))) | fail))
local macro_rules | `(tactic| walk_at "w1") => `(tactic| (first | ((with_reducible refine' w_inL ?h ?h1 ?h2 ?_); (case h => (walk_at "lk")); (case h1 => exact rfl); (case h2 => exact rfl)) | fail))
local macro_rules | `(tactic| walk_at "w1") => `(tactic| (first | ((with_reducible refine' w_inT ?h ?h1 ?h2 ?_); (case h => (walk_at "lk")); (case h1 => exact rfl); (case h2 => exact rfl)) | fail))
local macro_rules | `(tactic| walk_at "w1") => `(tactic| (first | with_reducible refine' w_I0 ?_ | fail))
local macro_rules | `(tactic| walk_at "w1") => `(tactic| (first | ((with_reducible refine' w_plusL ?h1 ?h2 ?hz (fun r hr0 => ?_)); (case h1 => (walk_at "lk")); (case h2 => (walk_at "lk")); (case hz => (walk_at "sz"))) | fail))
local macro_rules | `(tactic| walk_at "w1") => `(tactic| (first | ((with_reducible refine' w_plusT ?h1 ?h2 ?hx ?hz (fun r hr0 => ?_)); (case h1 => (walk_at "lk")); (case h2 => (walk_at "lk")); (case hx => exact List.cons_ne_nil _ _); (case hz => exact rfl)) | fail))
local macro_rules | `(tactic| walk_at "w1") => `(tactic| (first | ((with_reducible refine' w_plusS ?h ?_); (case h => exact rfl)) | fail))
local macro_rules | `(tactic| walk_at "w1") => `(tactic| (first | with_reducible refine' w_plusI ?_ | fail))
local macro_rules | `(tactic| walk_at "w1") => `(tactic| (first | ((with_reducible refine' w_slL ?h ?hc (fun q hq => ?_)); (case h => (walk_at "lk")); (case hc => first | exact cut_21 | exact cut_1 | exact cut_2 | exact cut_t2 | exact cut_m3 | exact cut_m4 | exact cut_to (by assumption) | exact cut_from (by assumption) | exact rfl)) | fail))
local macro_rules | `(tactic| walk_at "w1") => `(tactic| (first | ((with_reducible refine' w_slT ?h ?hn ?hc (fun q hq => ?_)); (case h => (walk_at "lk")); (case hn => exact rfl); (case hc => first | exact cut_21 | exact cut_1 | exact cut_2 | exact cut_t2 | exact cut_m3 | exact cut_m4 | exact cut_to (by assumption) | exact cut_from (by assumption) | exact rfl)) | fail))
local macro_rules | `(tactic| walk_at "w1") => `(tactic| (first | with_reducible refine' w_notn ?_ | fail))
local macro_rules | `(tactic| walk_at "w1") => `(tactic| (first | with_reducible refine' w_isn ?_ | fail))
local macro_rules | `(tactic| walk_at "w1") => `(tactic| (first | with_reducible refine' w_rU ?_ | fail))
local macro_rules | `(tactic| walk_at "w1") => `(tactic| (first | with_reducible refine' w_un ?_ | fail))
local macro_rules | `(tactic| walk_at "w1") => `(tactic| (first | ((with_reducible refine' w_tyL ?h ?_); (case h => (walk_at "lk"))) | fail))
local macro_rules | `(tactic| walk_at "w1") => `(tactic| (first | with_reducible refine' w_bm0 ?_ | fail))
local macro_rules | `(tactic| walk_at "w1") => `(tactic| (first | with_reducible refine' w_bm ?_ | fail))
local macro_rules | `(tactic| walk_at "w1") => `(tactic| (first | ((with_reducible refine' w_popS ?h ?_); (case h => (walk_at "lk"))) | fail))
local macro_rules | `(tactic| walk_at "w1") => `(tactic| (first | ((with_reducible refine' w_popR ?h ?_); (case h => (walk_at "lk"))) | fail))
local macro_rules | `(tactic| walk_at "w1") => `(tactic| (first | ((with_reducible refine' w_ext ?h ?h2 ?hz ?_); (case h => (walk_at "lk")); (case h2 => (walk_at "lk")); (case hz => (walk_at "sz"))) | fail))
local macro_rules | `(tactic| walk_at "w1") => `(tactic| (first | ((with_reducible refine' w_app ?h ?hz ?_); (case h => (walk_at "lk")); (case hz => (walk_at "sz"))) | fail))
local macro_rules | `(tactic| walk_at "w1") => `(tactic| (first | ((with_reducible refine' w_appR ?h ?hz ?_); (case h => (walk_at "lk")); (case hz => (walk_at "sz"))) | fail))
local macro_rules | `(tactic| walk_at "w1") => `(tactic| (first | ((with_reducible refine' w_I ?h ?_); (case h => first | assumption | decide | exact Or.inl (by decide))) | fail))
local macro_rules | `(tactic| walk_at "w1") => `(tactic| (first | with_reducible refine' w_notV ?_ | fail))
local macro_rules | `(tactic| walk_at "w1") => `(tactic| (first | with_reducible refine' w_orV ?_ | fail))
local macro_rules | `(tactic| walk_at "w1") => `(tactic| (first | with_reducible refine' w_make ?_ | fail))
local macro_rules | `(tactic| walk_at "w1") => `(tactic| (first | with_reducible refine' w_int ?_ | fail))
local macro_rules | `(tactic| walk_at "w1") => `(tactic| (first | with_reducible refine' w_part ?_ | fail))
local macro_rules | `(tactic| walk_at "w1") => `(tactic| (first | with_reducible refine' w_nopart ?_ | fail))
local macro_rules | `(tactic| walk_at "w1") => `(tactic| (first | with_reducible refine' w_sl ?_ | fail))
local macro_rules | `(tactic| walk_at "w1") => `(tactic| (first | with_reducible refine' w_cb ?_ | fail))
local macro_rules | `(tactic| walk_at "w1") => `(tactic| (first | with_reducible refine' w_ifE ?_ | fail))
local macro_rules | `(tactic| walk_at "w1") => `(tactic| (first | with_reducible refine' w_andV ?_ | fail))
local macro_rules | `(tactic| walk_at "w1") => `(tactic| (first | ((with_reducible refine' w_few ?h (fun p hp => ?_)); (case h => exact rfl)) | fail))
local macro_rules | `(tactic| walk_at "w1") => `(tactic| (first | with_reducible refine' w_nil ?_ | fail))
local macro_rules | `(tactic| walk_at "w1") => `(tactic| (first | with_reducible refine' w_cons ?_ | fail))
local macro_rules | `(tactic| walk_at "w1") => `(tactic| (first | with_reducible refine' w_lst ?_ | fail))
local macro_rules | `(tactic| walk_at "w1") => `(tactic| (first | with_reducible refine' w_tup ?_ | fail))
local macro_rules | `(tactic| walk_at "w1") => `(tactic| (first | with_reducible refine' w_next ?_ | fail))
local macro_rules | `(tactic| walk_at "w1") => `(tactic| (first | with_reducible refine' w_retn ?_ | fail))
local macro_rules | `(tactic| walk_at "w1") => `(tactic| (first | with_reducible refine' w_ret ?_ | fail))
local macro_rules | `(tactic| walk_at "w1") => `(tactic| (first | with_reducible refine' w_par3' ?_ | fail))
local macro_rules | `(tactic| walk_at "w1") => `(tactic| (first | with_reducible refine' w_par3 ?_ | fail))
local macro_rules | `(tactic| walk_at "w1") => `(tactic| (first | with_reducible refine' w_par' ?_ | fail))
local macro_rules | `(tactic| walk_at "w1") => `(tactic| (first | with_reducible refine' w_par ?_ | fail))
local macro_rules | `(tactic| walk_at "w1") => `(tactic| (first | with_reducible refine' w_drop ?_ | fail))
local macro_rules | `(tactic| walk_at "w1") => `(tactic| (first | with_reducible refine' w_asg ?_ | fail))
local macro_rules | `(tactic| walk_at "w1") => `(tactic| (first | ((with_reducible refine' w_aug2 ?h ?hl ?_); (case h => (walk_at "lk")); (case hl => first | exact rfl | assumption)) | fail))
local macro_rules | `(tactic| walk_at "w1") => `(tactic| (first | ((with_reducible refine' w_aug1 ?h ?hl ?_); (case h => (walk_at "lk")); (case hl => first | exact rfl | assumption)) | fail))
local macro_rules | `(tactic| walk_at "w1") => `(tactic| (first | with_reducible refine' w_aug ?_ | fail))
local macro_rules | `(tactic| walk_at "w1") => `(tactic| (first | ((with_reducible refine' w_set1 ?h ?hl ?_); (case h => (walk_at "lk")); (case hl => first | exact rfl | assumption)) | fail))
local macro_rules | `(tactic| walk_at "w1") => `(tactic| (first | with_reducible refine' w_set ?_ | fail))
local macro_rules | `(tactic| walk_at "w1") => `(tactic| (first | ((with_reducible refine' w_get1 ?h ?hl ?_); (case h => (walk_at "lk")); (case hl => first | exact rfl | assumption)) | fail))
local macro_rules | `(tactic| walk_at "w1") => `(tactic| (first | with_reducible refine' w_get ?_ | fail))
local macro_rules | `(tactic| walk_at "w1") => `(tactic| (first | ((with_reducible refine' ite_f ?h ?_); (case h => first | exact rfl | assumption)) | fail))
local macro_rules | `(tactic| walk_at "w1") => `(tactic| (first | ((with_reducible refine' ite_t ?h ?_); (case h => first | exact rfl | assumption)) | fail))
local macro_rules | `(tactic| walk_at "w1") => `(tactic| (first | ((with_reducible refine' w_ne ?h ?_); (case h => exact rfl)) | fail))
local macro_rules | `(tactic| walk_at "w1") => `(tactic| (first | ((with_reducible refine' w_eq ?h ?_); (case h => exact rfl)) | fail))
local macro_rules | `(tactic| walk_at "w1") => `(tactic| (first | ((with_reducible refine' w_ixL ?h ?ha ?_); (case h => (walk_at "lk")); (case ha => first | exact rfl | exact atI_0 | exact atI_last _ _ | assumption)) | fail))
local macro_rules | `(tactic| walk_at "w1") => `(tactic| (first | ((with_reducible refine' w_ixT ?h ?ha ?_); (case h => (walk_at "lk")); (case ha => first | exact rfl | exact atI_0 | exact atI_last _ _ | assumption)) | fail))
local macro_rules | `(tactic| walk_at "w1") => `(tactic| (first | with_reducible refine' w_bl ?_ | fail))
local macro_rules | `(tactic| walk_at "w1") => `(tactic| (first | with_reducible refine' w_tru ?_ | fail))
local macro_rules | `(tactic| walk_at "w1") => `(tactic| (first | with_reducible refine' w_not ?_ | fail))
local macro_rules | `(tactic| walk_at "w1") => `(tactic| (first | with_reducible refine' w_and ?_ | fail))
local macro_rules | `(tactic| walk_at "w1") => `(tactic| (first | with_reducible refine' w_or ?_ | fail))
local macro_rules | `(tactic| walk_at "w1") => `(tactic| (first | with_reducible refine' w_test ?_ | fail))
local macro_rules | `(tactic| walk_at "w1") => `(tactic| (first | with_reducible refine' w_if ?_ | fail))
local macro_rules | `(tactic| walk_at "w1") => `(tactic| (first | with_reducible refine' w_op ?_ | fail))
local macro_rules | `(tactic| walk_at "w1") => `(tactic| (first | with_reducible refine' w_c ?_ | fail))
local macro_rules | `(tactic| walk_at "w1") => `(tactic| (first | ((with_reducible refine' w_var ?h ?_); (case h => exact rfl)) | fail))
local macro_rules | `(tactic| walk_at "w1") => `(tactic| (first | with_reducible refine' w_seq ?_ | fail))
local macro_rules | `(tactic| walk_at "w") => `(tactic| (repeat (walk_at "w1")))
local macro_rules | `(tactic| walk_at "sz") => `(tactic| (first | (simp; omega) | fail))
local macro_rules | `(tactic| walk_at "sz") => `(tactic| (first | omega | fail))
local macro_rules | `(tactic| walk_at "sz") => `(tactic| (first | (exact ble_le rfl) | fail))
local macro_rules | `(tactic| walk_at "nm") => `(tactic| focus (first | ((apply NmL.cons); (walk_at "lk"); (walk_at "nm")) | fail))
local macro_rules | `(tactic| walk_at "nm") => `(tactic| focus (first | exact NmL.nil | fail))
set_option maxRecDepth 100000
set_option maxHeartbeats 400000
section
variable {P : Program} {w : World} {K : PySem.W.Frag} {mg : Str → Option Value} {base : Heap}

abbrev nm_quoted : List Str := ["value"]
theorem sc_quoted : FnScope nm_quoted ["value"] (defScope s_quoted) := ⟨rfl, rfl, rfl, by decide +kernel, rfl, by decide +kernel, by decide +kernel⟩
theorem st_quoted {a0 : V} : L2.start nm_quoted [a0] = [some a0] := rfl

def sp_quoted (K : PySem.W.Frag) : Sp := fun vs H Q _ => ∃ d v, vs = [v] ∧ Rep K H d v ∧ ∀ H' u, Same H H' → Rep K H' (.tup [.str "quoted", d]) u → Q u H'
theorem ok_quoted (T : Txt w K mg) : C8.Cal P w K mg base 1 "quoted" (sp_quoted K) [] := by
  refine calD (k := 0) T.f_quoted T.g_quoted sc_quoted (fun _ _ _ _ _ _ us hl => match us, hl with | [_], _ => rfl) (fun vs H Q Ex h => ?_) (fun cdv A outer s H vs Q Ex hr h => ⟨_, (pss_one (ps_ret (pe_tup (pa_cons pe_str (pa_cons (pv 0) pa_nil))))), ?_⟩)
  · obtain ⟨d, v, rfl, _⟩ := h
    rfl
  · obtain ⟨d, v, rfl, r, k⟩ := h
    rw [st_quoted]
    walk_at "w"
    refine k _ _ ?_ ?_
    · walk_at "sm"
    · walk_at "rp"

abbrev nm_parts : List Str := ["expression", "head", "inner", "clause"]
theorem sc_parts : FnScope nm_parts ["expression"] (defScope s_parts) := ⟨rfl, rfl, rfl, by decide +kernel, rfl, by decide +kernel, by decide +kernel⟩
theorem st_parts {a0 : V} : L2.start nm_parts [a0] = [some a0, none, none, none] := rfl

def sp_parts (K : PySem.W.Frag) : Sp := fun vs H Q _ => ∃ (e : E) (v : V), vs = [v] ∧ Rep K H e.d v ∧ ∀ H' p us, Same H H' → H p = none → H' p = some (.lst us) → Reps K H' (e.parts.map E.d) us → Q (.ref p) H'
theorem ok_parts (T : Txt w K mg) : C8.Cal P w K mg base 1 "parts" (sp_parts K) [] := by
  refine calD (k := 0) T.f_parts T.g_parts sc_parts (fun _ _ _ _ _ _ us hl => match us, hl with | [_], _ => rfl) (fun vs H Q Ex h => ?_) (fun cdv A outer s H vs Q Ex hr h => ⟨_, (pss_cons (ps_set (i := 1) sc_parts.nd rfl (by first | exact Or.inl rfl | exact Or.inr rfl) (pe_ix ix_2 (pv 0) pe_int (fun _ _ => rfl))) (pss_cons (ps_if (pt_cmpR op_in_seq (pv 1) (pe_glob (v := V.ref (He.ga K "LEAVES_trees")) (by rfl) T.g_LEAVES_trees rfl) (by rfl)) (pss_one (ps_ret (pe_lst pa_nil))) pss_nil) (pss_cons (ps_if (pt_cmpR op_in_seq (pv 1) (pe_tup (pa_cons pe_str (pa_cons pe_str pa_nil))) (by rfl)) (pss_one (ps_ret (pe_lst (pa_cons (pe_ix ix_2 (pv 0) (pe_un un_neg pe_int) (fun _ _ => rfl)) pa_nil)))) pss_nil) (pss_cons (ps_if (pt_cmpR op_in_seq (pv 1) (pe_tup (pa_cons pe_str (pa_cons pe_str pa_nil))) (by rfl)) (pss_one (ps_ret (pe_lst (pa_cons (pe_ix ix_2 (pv 0) pe_int (fun _ _ => rfl)) (pa_cons (pe_ix ix_2 (pv 0) pe_int (fun _ _ => rfl)) pa_nil))))) pss_nil) (pss_cons (ps_if (pt_cmpR op_eq (pv 1) pe_str (by rfl)) (pss_one (ps_ret (pe_lst (pa_cons (pe_ix ix_2 (pv 0) pe_int (fun _ _ => rfl)) pa_nil)))) pss_nil) (pss_cons (ps_if (pt_cmpR op_eq (pv 1) pe_str (by rfl)) pss_never pss_nil) (pss_one (ps_ret (pe_callTy call_listOf (by rfl) T.z_list (by decide +kernel) (pa_cons (pe_slice sl_2 (pv 0) (po_some pe_int) po_none) pa_nil)))))))))), ?_⟩)
  · obtain ⟨e, v, rfl, _⟩ := h
    rfl
  · obtain ⟨e, v, rfl, r, k⟩ := h
    rw [st_parts]
    have hl := T.t_LEAVES_trees H
    cases e with
    | num _ =>
      obtain ⟨a, _, rfl, ha, _, _, rfl, rfl, _, _, rfl, rfl, rfl⟩ := r
      walk_at "w"
      refine k _ _ _ ?_ ?_ upd_same ?_
      · walk_at "sm"
      · walk_at "fr"
      · walk_at "rp"
    | unit  =>
      obtain ⟨a, _, rfl, ha, _, _, rfl, rfl, rfl⟩ := r
      walk_at "w"
      refine k _ _ _ ?_ ?_ upd_same ?_
      · walk_at "sm"
      · walk_at "fr"
      · walk_at "rp"
    | name _ =>
      obtain ⟨a, _, rfl, ha, _, _, rfl, rfl, _, _, rfl, rfl, rfl⟩ := r
      walk_at "w"
      refine k _ _ _ ?_ ?_ upd_same ?_
      · walk_at "sm"
      · walk_at "fr"
      · walk_at "rp"
    | call _ _ =>
      obtain ⟨a, _, rfl, ha, _, _, rfl, rfl, _, _, rfl, r1, _, _, rfl, r2, rfl⟩ := r
      walk_at "w"
      refine k _ _ _ ?_ ?_ upd_same ?_
      · walk_at "sm"
      · walk_at "fr"
      · walk_at "rp"
    | fn _ _ =>
      obtain ⟨a, _, rfl, ha, _, _, rfl, rfl, _, _, rfl, rfl, _, _, rfl, r1, rfl⟩ := r
      walk_at "w"
      refine k _ _ _ ?_ ?_ upd_same ?_
      · walk_at "sm"
      · walk_at "fr"
      · walk_at "rp"
    | rc _ _ _ =>
      obtain ⟨a, _, rfl, ha, _, _, rfl, rfl, _, _, rfl, rfl, _, _, rfl, rfl, _, _, rfl, r1, rfl⟩ := r
      walk_at "w"
      refine k _ _ _ ?_ ?_ upd_same ?_
      · walk_at "sm"
      · walk_at "fr"
      · walk_at "rp"
    | lt _ _ _ =>
      obtain ⟨a, _, rfl, ha, _, _, rfl, rfl, _, _, rfl, rfl, _, _, rfl, r1, _, _, rfl, r2, rfl⟩ := r
      walk_at "w"
      refine k _ _ _ ?_ ?_ upd_same ?_
      · walk_at "sm"
      · walk_at "fr"
      · walk_at "rp"
    | ite _ _ _ =>
      obtain ⟨a, _, rfl, ha, _, _, rfl, rfl, _, _, rfl, r1, _, _, rfl, r2, _, _, rfl, r3, rfl⟩ := r
      walk_at "w"
      refine k _ _ _ ?_ ?_ upd_same ?_
      · walk_at "sm"
      · walk_at "fr"
      · walk_at "rp"
    | pair _ _ =>
      obtain ⟨a, _, rfl, ha, _, _, rfl, rfl, _, _, rfl, r1, _, _, rfl, r2, rfl⟩ := r
      walk_at "w"
      refine k _ _ _ ?_ ?_ upd_same ?_
      · walk_at "sm"
      · walk_at "fr"
      · walk_at "rp"
    | op _ _ _ =>
      obtain ⟨a, _, rfl, ha, _, _, rfl, rfl, _, _, rfl, rfl, _, _, rfl, r1, _, _, rfl, r2, rfl⟩ := r
      walk_at "w"
      refine k _ _ _ ?_ ?_ upd_same ?_
      · walk_at "sm"
      · walk_at "fr"
      · walk_at "rp"
    | print _ _ =>
      obtain ⟨a, _, rfl, ha, _, _, rfl, rfl, _, _, rfl, r1, _, _, rfl, r2, rfl⟩ := r
      walk_at "w"
      refine k _ _ _ ?_ ?_ upd_same ?_
      · walk_at "sm"
      · walk_at "fr"
      · walk_at "rp"
    | ask _ _ =>
      obtain ⟨a, _, rfl, ha, _, _, rfl, rfl, _, _, rfl, rfl, _, _, rfl, r1, rfl⟩ := r
      walk_at "w"
      refine k _ _ _ ?_ ?_ upd_same ?_
      · walk_at "sm"
      · walk_at "fr"
      · walk_at "rp"
    | quoted _ =>
      obtain ⟨a, _, rfl, ha, _, _, rfl, rfl, _, _, rfl, r1, rfl⟩ := r
      walk_at "w"
      refine k _ _ _ ?_ ?_ upd_same ?_
      · walk_at "sm"
      · walk_at "fr"
      · walk_at "rp"

abbrev nm_with_parts : List Str := ["expression", "inner", "head", "clauses", "clause", "body"]
theorem sc_with_parts : FnScope nm_with_parts ["expression", "inner"] (defScope s_with_parts) := ⟨rfl, rfl, rfl, by decide +kernel, rfl, by decide +kernel, by decide +kernel⟩
theorem st_with_parts {a0 a1 : V} : L2.start nm_with_parts [a0, a1] = [some a0, some a1, none, none, none, none] := rfl

def sp_with_parts (K : PySem.W.Frag) : Sp := fun vs H Q _ => ∃ (e : E) (v : V) (l : Addr) (us : List V) (ds : List D), vs = [v, .ref l] ∧ Rep K H e.d v ∧ H l = some (.lst us) ∧ Reps K H ds us ∧ ds.length = e.parts.length ∧ ∀ H' u, Same H H' → Rep K H' (e.with ds) u → Q u H'
theorem ok_with_parts (T : Txt w K mg) : C8.Cal P w K mg base 1 "with_parts" (sp_with_parts K) [] := by
  refine calD (k := 0) T.f_with_parts T.g_with_parts sc_with_parts (fun _ _ _ _ _ _ us hl => match us, hl with | [_, _], _ => rfl) (fun vs H Q Ex h => ?_) (fun cdv A outer s H vs Q Ex hr h => ⟨_, (pss_cons (ps_set (i := 2) sc_with_parts.nd rfl (by first | exact Or.inl rfl | exact Or.inr rfl) (pe_ix ix_2 (pv 0) pe_int (fun _ _ => rfl))) (pss_cons (ps_if (pt_cmpR op_in_seq (pv 2) (pe_glob (v := V.ref (He.ga K "LEAVES_trees")) (by rfl) T.g_LEAVES_trees rfl) (by rfl)) (pss_one (ps_ret (pv 0))) pss_nil) (pss_cons (ps_if (pt_cmpR op_in_seq (pv 2) (pe_tup (pa_cons pe_str (pa_cons pe_str pa_nil))) (by rfl)) (pss_one (ps_ret (pe_op op_plus (pe_slice sl_2 (pv 0) po_none (po_some (pe_un un_neg pe_int))) (pe_tup (pa_cons (pe_ix ix_2 (pv 1) pe_int (fun _ _ => rfl)) pa_nil))))) pss_nil) (pss_cons (ps_if (pt_cmpR op_in_seq (pv 2) (pe_tup (pa_cons pe_str (pa_cons pe_str pa_nil))) (by rfl)) (pss_one (ps_ret (pe_op op_plus (pe_slice sl_2 (pv 0) po_none (po_some pe_int)) (pe_tup (pa_cons (pe_ix ix_2 (pv 1) pe_int (fun _ _ => rfl)) (pa_cons (pe_ix ix_2 (pv 1) pe_int (fun _ _ => rfl)) pa_nil)))))) pss_nil) (pss_cons (ps_if (pt_cmpR op_eq (pv 2) pe_str (by rfl)) (pss_one (ps_ret (pe_tup (pa_cons pe_str (pa_cons (pe_ix ix_2 (pv 0) pe_int (fun _ _ => rfl)) (pa_cons (pe_ix ix_2 (pv 1) pe_int (fun _ _ => rfl)) pa_nil)))))) pss_nil) (pss_cons (ps_if (pt_cmpR op_eq (pv 2) pe_str (by rfl)) pss_never pss_nil) (pss_one (ps_ret (pe_op op_plus (pe_tup (pa_cons (pv 2) pa_nil)) (pe_callTy call_tupOf (by rfl) T.z_tuple (by decide +kernel) (pa_cons (pv 1) pa_nil))))))))))), ?_⟩)
  · obtain ⟨e, v, l, us, ds, rfl, _⟩ := h
    rfl
  · obtain ⟨e, v, l, us, ds, rfl, r, hl, ru, hn, k⟩ := h
    rw [st_with_parts]
    have hlv := T.t_LEAVES_trees H
    cases e with
    | num _ =>
      obtain ⟨a, _, rfl, ha, _, _, rfl, rfl, _, _, rfl, rfl, rfl⟩ := r
      walk_at "w"
      refine k _ _ ?_ ?_
      · walk_at "sm"
      · walk_at "rp"
    | unit  =>
      obtain ⟨a, _, rfl, ha, _, _, rfl, rfl, rfl⟩ := r
      walk_at "w"
      refine k _ _ ?_ ?_
      · walk_at "sm"
      · walk_at "rp"
    | name _ =>
      obtain ⟨a, _, rfl, ha, _, _, rfl, rfl, _, _, rfl, rfl, rfl⟩ := r
      walk_at "w"
      refine k _ _ ?_ ?_
      · walk_at "sm"
      · walk_at "rp"
    | call _ _ =>
      obtain ⟨a, _, rfl, ha, _, _, rfl, rfl, _, _, rfl, r1, _, _, rfl, r2, rfl⟩ := r
      obtain ⟨d0, d1, rfl⟩ := len_2 hn
      obtain ⟨_, _, rfl, q0, _, _, rfl, q1, rfl⟩ := ru
      walk_at "w"
      refine k _ _ ?_ ?_
      · walk_at "sm"
      · walk_at "rp"
    | fn _ _ =>
      obtain ⟨a, _, rfl, ha, _, _, rfl, rfl, _, _, rfl, rfl, _, _, rfl, r1, rfl⟩ := r
      obtain ⟨d0, rfl⟩ := len_1 hn
      obtain ⟨_, _, rfl, q0, rfl⟩ := ru
      walk_at "w"
      refine k _ _ ?_ ?_
      · walk_at "sm"
      · walk_at "rp"
    | rc _ _ _ =>
      obtain ⟨a, _, rfl, ha, _, _, rfl, rfl, _, _, rfl, rfl, _, _, rfl, rfl, _, _, rfl, r1, rfl⟩ := r
      obtain ⟨d0, rfl⟩ := len_1 hn
      obtain ⟨_, _, rfl, q0, rfl⟩ := ru
      walk_at "w"
      refine k _ _ ?_ ?_
      · walk_at "sm"
      · walk_at "rp"
    | lt _ _ _ =>
      obtain ⟨a, _, rfl, ha, _, _, rfl, rfl, _, _, rfl, rfl, _, _, rfl, r1, _, _, rfl, r2, rfl⟩ := r
      obtain ⟨d0, d1, rfl⟩ := len_2 hn
      obtain ⟨_, _, rfl, q0, _, _, rfl, q1, rfl⟩ := ru
      walk_at "w"
      refine k _ _ ?_ ?_
      · walk_at "sm"
      · walk_at "rp"
    | ite _ _ _ =>
      obtain ⟨a, _, rfl, ha, _, _, rfl, rfl, _, _, rfl, r1, _, _, rfl, r2, _, _, rfl, r3, rfl⟩ := r
      obtain ⟨d0, d1, d2, rfl⟩ := len_3 hn
      obtain ⟨_, _, rfl, q0, _, _, rfl, q1, _, _, rfl, q2, rfl⟩ := ru
      walk_at "w"
      refine k _ _ ?_ ?_
      · walk_at "sm"
      · walk_at "rp"
    | pair _ _ =>
      obtain ⟨a, _, rfl, ha, _, _, rfl, rfl, _, _, rfl, r1, _, _, rfl, r2, rfl⟩ := r
      obtain ⟨d0, d1, rfl⟩ := len_2 hn
      obtain ⟨_, _, rfl, q0, _, _, rfl, q1, rfl⟩ := ru
      walk_at "w"
      refine k _ _ ?_ ?_
      · walk_at "sm"
      · walk_at "rp"
    | op _ _ _ =>
      obtain ⟨a, _, rfl, ha, _, _, rfl, rfl, _, _, rfl, rfl, _, _, rfl, r1, _, _, rfl, r2, rfl⟩ := r
      obtain ⟨d0, d1, rfl⟩ := len_2 hn
      obtain ⟨_, _, rfl, q0, _, _, rfl, q1, rfl⟩ := ru
      walk_at "w"
      refine k _ _ ?_ ?_
      · walk_at "sm"
      · walk_at "rp"
    | print _ _ =>
      obtain ⟨a, _, rfl, ha, _, _, rfl, rfl, _, _, rfl, r1, _, _, rfl, r2, rfl⟩ := r
      obtain ⟨d0, d1, rfl⟩ := len_2 hn
      obtain ⟨_, _, rfl, q0, _, _, rfl, q1, rfl⟩ := ru
      walk_at "w"
      refine k _ _ ?_ ?_
      · walk_at "sm"
      · walk_at "rp"
    | ask _ _ =>
      obtain ⟨a, _, rfl, ha, _, _, rfl, rfl, _, _, rfl, rfl, _, _, rfl, r1, rfl⟩ := r
      obtain ⟨d0, rfl⟩ := len_1 hn
      obtain ⟨_, _, rfl, q0, rfl⟩ := ru
      walk_at "w"
      refine k _ _ ?_ ?_
      · walk_at "sm"
      · walk_at "rp"
    | quoted _ =>
      obtain ⟨a, _, rfl, ha, _, _, rfl, rfl, _, _, rfl, r1, rfl⟩ := r
      walk_at "w"
      refine k _ _ ?_ ?_
      · walk_at "sm"
      · walk_at "rp"

end
set_option maxRecDepth 100000
set_option maxHeartbeats 400000
section
variable {P : Program} {w : World} {K : PySem.W.Frag} {mg : Str → Option Value} {base : Heap}

abbrev nm_bound_names : List Str := ["expression", "head", "clause", "part"]
theorem sc_bound_names : FnScope nm_bound_names ["expression"] (defScope s_bound_names) := ⟨rfl, rfl, rfl, by decide +kernel, rfl, by decide +kernel, by decide +kernel⟩
theorem st_bound_names {a0 : V} : L2.start nm_bound_names [a0] = [some a0, none, none, none] := rfl

def sp_bound_names (K : PySem.W.Frag) : Sp := fun vs H Q _ => ∃ (e : E) (v : V), vs = [v] ∧ Rep K H e.d v ∧ ∀ H' p us, Same H H' → H p = none → H' p = some (.lst us) → NmL H' e.bnd us → (∀ q, V.ref q ∈ us → H q = none) → Q (.ref p) H'
theorem ok_bound_names (T : Txt w K mg) (c_parts : C8.Cal P w K mg base 1 "parts" (sp_parts K) []) : C8.Cal P w K mg base 2 "bound_names" (sp_bound_names K) [] := by
  refine calD (k := 1) T.f_bound_names T.g_bound_names sc_bound_names (fun _ _ _ _ _ _ us hl => match us, hl with | [_], _ => rfl) (fun vs H Q Ex h => ?_) (fun cdv A outer s H vs Q Ex hr h => ⟨_, (pss_cons (ps_set (i := 1) sc_bound_names.nd rfl (by first | exact Or.inl rfl | exact Or.inr rfl) (pe_ix ix_2 (pv 0) pe_int (fun _ _ => rfl))) (pss_cons (ps_if (pt_cmpR op_eq (pv 1) pe_str (by rfl)) (pss_one (ps_ret (pe_lst (pa_cons (pe_lst (pa_cons (pe_ix ix_2 (pv 0) pe_int (fun _ _ => rfl)) pa_nil)) pa_nil)))) pss_nil) (pss_cons (ps_if (pt_cmpR op_eq (pv 1) pe_str (by rfl)) (pss_one (ps_ret (pe_lst (pa_cons (pe_lst (pa_cons (pe_ix ix_2 (pv 0) pe_int (fun _ _ => rfl)) (pa_cons (pe_ix ix_2 (pv 0) pe_int (fun _ _ => rfl)) pa_nil))) pa_nil)))) pss_nil) (pss_cons (ps_if (pt_cmpR op_eq (pv 1) pe_str (by rfl)) (pss_one (ps_ret (pe_lst (pa_cons (pe_lst pa_nil) (pa_cons (pe_lst (pa_cons (pe_ix ix_2 (pv 0) pe_int (fun _ _ => rfl)) pa_nil)) pa_nil))))) pss_nil) (pss_cons (ps_if (pt_cmpR op_eq (pv 1) pe_str (by rfl)) pss_never pss_nil) (pss_one (ps_ret (pe_lc (own := [("part", 3)]) (tt := tYes) rfl sc_bound_names.nd (pi_list (C8.pe_c c_parts hr (by omega) (by rfl) (pa_cons (pv 0) pa_nil))) (blkOk_by (own := [("part", 3)]) (N := nm_bound_names) (sc := defScope s_bound_names) (by decide +kernel)) (fun _ _ _ _ _ => (pg_name (i := 3) sc_bound_names.nd rfl (by first | exact Or.inl rfl | exact Or.inr rfl))) (fun _ _ _ _ _ => pts_nil) (fun _ _ _ _ _ => (pe_lst pa_nil)))))))))), ?_⟩)
  · obtain ⟨e, v, rfl, _⟩ := h
    rfl
  · obtain ⟨e, v, rfl, r, k⟩ := h
    rw [st_bound_names]
    cases e with
    | fn _ _ =>
      obtain ⟨a, _, rfl, ha, _, _, rfl, rfl, _, _, rfl, rfl, _, _, rfl, r1, rfl⟩ := r
      walk_at "w"
      refine k _ _ _ ?_ ?_ upd_same ?_ ?_
      · walk_at "sm"
      · walk_at "fr"
      · walk_at "nm"
      · intro q hq
        simp only [List.mem_cons, List.not_mem_nil, or_false, V.ref.injEq] at hq
        rcases hq with rfl | rfl <;> walk_at "fr"
    | rc _ _ _ =>
      obtain ⟨a, _, rfl, ha, _, _, rfl, rfl, _, _, rfl, rfl, _, _, rfl, rfl, _, _, rfl, r1, rfl⟩ := r
      walk_at "w"
      refine k _ _ _ ?_ ?_ upd_same ?_ ?_
      · walk_at "sm"
      · walk_at "fr"
      · walk_at "nm"
      · intro q hq
        simp only [List.mem_cons, List.not_mem_nil, or_false, V.ref.injEq] at hq
        rcases hq with rfl | rfl <;> walk_at "fr"
    | lt _ _ _ =>
      obtain ⟨a, _, rfl, ha, _, _, rfl, rfl, _, _, rfl, rfl, _, _, rfl, r1, _, _, rfl, r2, rfl⟩ := r
      walk_at "w"
      refine k _ _ _ ?_ ?_ upd_same ?_ ?_
      · walk_at "sm"
      · walk_at "fr"
      · walk_at "nm"
      · intro q hq
        simp only [List.mem_cons, List.not_mem_nil, or_false, V.ref.injEq] at hq
        rcases hq with rfl | rfl <;> walk_at "fr"
    | num _ | unit | name _ | call _ _ | ite _ _ _ | pair _ _ | op _ _ _ | print _ _ | ask _ _ | quoted _ =>
      obtain ⟨a, us, rfl, ha⟩ := rep_hd r
      walk_at "w"
      refine ⟨_, _, rfl, r.mono (by walk_at "le"), fun H1 p us s1 n1 h1 r1 => ⟨p, rfl, ⟨us, sql_of h1⟩, fun Dl hD => lc_emp (sql_of h1) (Nat.le_trans (Nat.le_of_eq r1.length) (ble_le rfl)) hD fun H2 ws s2 h2 h3 h4 => k _ _ _ ?_ ?_ h2 ?_ fun q hq => ?_⟩⟩
      · walk_at "sm"
      · walk_at "fr"
      · have e := r1.length
        rw [e] at h3
        exact h3
      · have e := h4 q hq
        walk_at "fr"

abbrev nm_put_in : List Str := ["expression", "name", "tree", "inner", "part", "names"]
theorem sc_put_in : FnScope nm_put_in ["expression", "name", "tree"] (defScope s_put_in) := ⟨rfl, rfl, rfl, by decide +kernel, rfl, by decide +kernel, by decide +kernel⟩
theorem st_put_in {a0 a1 a2 : V} : L2.start nm_put_in [a0, a1, a2] = [some a0, some a1, some a2, none, none, none] := rfl

def sp_put_in (K : PySem.W.Frag) (n : Nat) : Sp := fun vs H Q _ => ∃ (e : E) (x : Nm) (d : D) (v t : V), vs = [v, .str x.str, t] ∧ Rep K H e.d v ∧ Rep K H (.tup [.str "quoted", d]) t ∧ e.dep ≤ n ∧ ∀ H' u, Same H H' → Rep K H' (e.put x d).d u → Q u H'
theorem zip_get {α β γ : Type} {f : α → β → γ} {l : List α} {m : List β} {i : Nat} {a : α} {b : β} (h1 : l[i]? = some a) (h2 : m[i]? = some b) : (List.zipWith f l m)[i]? = some (f a b) := by
  rw [List.getElem?_zipWith, h1, h2]
theorem take_snoc {α : Type} {l : List α} {i : Nat} {a : α} (h : l[i]? = some a) : l.take (i + 1) = l.take i ++ [a] := by
  rw [List.take_add_one, h]
  rfl
theorem ok_put_in (T : Txt w K mg) (c_parts : C8.Cal P w K mg base 1 "parts" (sp_parts K) []) (c_bound_names : C8.Cal P w K mg base 2 "bound_names" (sp_bound_names K) []) (c_with_parts : C8.Cal P w K mg base 1 "with_parts" (sp_with_parts K) []) : ∀ n : Nat, C8.Cal P w K mg base (n + 3) "put_in" (sp_put_in K n) [] := by
  intro n
  induction n with
  | zero =>
    refine calD (k := 2) T.f_put_in T.g_put_in sc_put_in (fun _ _ _ _ _ _ us hl => match us, hl with | [_, _, _], _ => rfl) (fun vs H Q Ex h => ?_) (fun cdv A outer s H vs Q Ex hr h => ?_)
    · obtain ⟨e, x, d, v, t, rfl, _⟩ := h
      rfl
    · obtain ⟨e, x, d, v, t, rfl, _, _, hd, _⟩ := h
      exact absurd hd (by cases e <;> simp [E.dep])
  | succ n ih =>
    have c_put_in := ih
    refine calD (k := n + 3) T.f_put_in T.g_put_in sc_put_in (fun _ _ _ _ _ _ us hl => match us, hl with | [_, _, _], _ => rfl) (fun vs H Q Ex h => ?_) (fun cdv A outer s H vs Q Ex hr h => ⟨_, (pss_cons (ps_if (pt_cmpR op_eq (pe_ix ix_2 (pv 0) pe_int (fun _ _ => rfl)) pe_str (by rfl)) (pss_cons (ps_if (pt_cmpR op_eq (pe_ix ix_2 (pv 0) pe_int (fun _ _ => rfl)) (pv 1) (by rfl)) (pss_one (ps_ret (pv 2))) pss_nil) (pss_one (ps_ret (pv 0)))) pss_nil) (pss_cons (ps_set (i := 3) sc_put_in.nd rfl (by first | exact Or.inl rfl | exact Or.inr rfl) (pe_lst pa_nil)) (pss_cons (ps_for PassesOwn.never rfl (pi_zip (by rfl) T.z_zip (pa_cons (C8.pe_c c_parts hr (by omega) (by rfl) (pa_cons (pv 0) pa_nil)) (pa_cons (C8.pe_c c_bound_names hr (by omega) (by rfl) (pa_cons (pv 0) pa_nil)) pa_nil))) (pg_tup rfl (pgs_cons (pg_name (i := 4) sc_put_in.nd rfl (by first | exact Or.inl rfl | exact Or.inr rfl)) (pgs_cons (pg_name (i := 5) sc_put_in.nd rfl (by first | exact Or.inl rfl | exact Or.inr rfl)) pgs_nil))) (pss_one (ps_if (pt_cmpR op_in_seq (pv 1) (pv 5) (by rfl)) (pss_one (ps_expr (pe_bm PySem.F.plainAttrs_list PySem.F.slot_list_append PySem.F.type_list_append mt_append (pv 3) (pa_cons (pv 4) pa_nil)))) (pss_one (ps_expr (pe_bm PySem.F.plainAttrs_list PySem.F.slot_list_append PySem.F.type_list_append mt_append (pv 3) (pa_cons (C8.pe_c c_put_in hr (by omega) (by rfl) (pa_cons (pv 4) (pa_cons (pv 1) (pa_cons (pv 2) pa_nil)))) pa_nil))))))) (pss_one (ps_ret (C8.pe_c c_with_parts hr (by omega) (by rfl) (pa_cons (pv 0) (pa_cons (pv 3) pa_nil)))))))), ?_⟩)
    · obtain ⟨e, x, d, v, t, rfl, _⟩ := h
      rfl
    obtain ⟨e, x, d, v, t, rfl, r, rt, hd, k⟩ := h
    rw [st_put_in]
    by_cases hy : ∃ y, e = .name y
    · obtain ⟨y, rfl⟩ := hy
      obtain ⟨a, _, rfl, ha, _, _, rfl, rfl, _, _, rfl, rfl, rfl⟩ := r
      walk_at "w"
      rw [Nm.dec]
      by_cases q : y = x
      · refine ite_t (decide_eq_true q) ?_
        walk_at "w"
        refine k _ _ (Same.refl H) ?_
        show Rep K H (if y = x then E.quoted d else .name y).d t
        rw [if_pos q]
        exact rt
      · refine ite_f (decide_eq_false q) ?_
        walk_at "w"
        refine k _ _ (Same.refl H) ?_
        show Rep K H (if y = x then E.quoted d else .name y).d (.ref a)
        rw [if_neg q]
        exact ⟨a, _, rfl, ha, _, _, rfl, rfl, _, _, rfl, rfl, rfl⟩
    · have hn := hd_name e fun y q => hy ⟨y, q⟩
      obtain ⟨a, us, rfl, ha⟩ := rep_hd r
      walk_at "w"
      rename_i l hl
      refine ⟨e, _, rfl, r.mono (by walk_at "le"), fun H1 p1 us1 s1 n1 h1 r1 => ?_⟩
      walk_at "w"
      refine ⟨e, _, rfl, r.mono (by walk_at "le"), fun H2 p2 us2 s2 n2 h2 r2 nw2 => ?_⟩
      walk_at "w"
      have s01 : Same H H2 := Same.trans (Same.trans (Same.new (Same.refl H) hl) s1) s2
      have hl2 : H2 l = some (.lst []) := s2 _ _ (s1 _ _ upd_same)
      have h12 : H2 p1 = some (.lst us1) := s2 _ _ h1
      have l1 : us1.length = e.parts.length := by rw [r1.length, List.length_map]
      have l2 : us2.length = e.parts.length := by rw [r2.len, E.bnd_len]
      have nl1 : p1 ≠ l := (ne_of_none upd_same n1).symm
      have nl2 : p2 ≠ l := (ne_of_none (s1 _ _ upd_same) n2).symm
      refine ⟨p1, p2, us1, us2, rfl, sql_of h12, sql_of h2, RZ.for_zipL (by rw [l1, l2]) (fun i σ H' => ∃ (ws : List V) (x1 x2 : Option V), σ = [some (.ref a), some (.str x.str), some t, some (.ref l), x1, x2] ∧ Same H H' ∧ Le K H2 H' ∧ (∀ b o, H2 b = some o → b ≠ l → H' b = some o) ∧ H' l = some (.lst ws) ∧ Reps K H' ((e.subs x d).take i) ws) ⟨[], none, none, rfl, s01, Le.refl, fun b o q _ => q, hl2, rfl⟩ (fun i σ H' ⟨ws, x1, x2, _, _, _, f, _⟩ => ⟨sql_of (f _ _ h12 nl1), sql_of (f _ _ h2 nl2)⟩) ?_ ?_⟩
      · rintro i y1 y2 Tz σ H' e1 e2 ⟨ws, x1, x2, rfl, s3, le3, f3, hw, rw3⟩ hT
        obtain ⟨dp, ed, rd⟩ := Reps.get r1 e1
        obtain ⟨p, ep, rfl⟩ : ∃ p, e.parts[i]? = some p ∧ p.d = dp := by
          rw [List.getElem?_map] at ed
          exact Option.map_eq_some_iff.mp ed
        obtain ⟨ns, en⟩ : ∃ ns, e.bnd[i]? = some ns := by
          have h1 := (List.getElem?_eq_some_iff.mp ep).1
          rw [← E.bnd_len] at h1
          exact ⟨_, List.getElem?_eq_getElem h1⟩
        obtain ⟨q, e2', hq⟩ := r2.get en
        rw [e2'] at e2
        cases e2
        have nql : q ≠ l := (ne_of_none (s1 _ _ upd_same) (nw2 q (List.mem_of_getElem? e2'))).symm
        have hq' := f3 _ _ hq nql
        have es : (e.subs x d)[i]? = some (if x ∈ ns then p.d else (p.put x d).d) := zip_get ep en
        have few : ws.length ≤ 3 := by
          rw [rw3.length, List.length_take]
          have := e.parts_few
          have := (List.getElem?_eq_some_iff.mp ep).1
          omega
        have rd' : Rep K H' p.d y1 := (rd.mono (Le.same s2)).mono le3
        rw [take_snoc es]
        walk_at "w"
        refine w_inL (sql_new (sql_of hq') hT) rfl (flat_nm ns) (w_bl ?_)
        show if (inV (V.str x.str) (nmV ns)) = true then _ else _
        rw [inV_nm]
        by_cases hx : x ∈ ns
        · rw [if_pos hx]
          refine ite_t (decide_eq_true hx) ?_
          walk_at "w"
          have le' : ∀ o, Le K H' (upd (upd H' Tz (.tup [y1, .ref q])) l o) := fun o => Le.lst (Le.new Le.refl hT) (get_new hw hT)
          exact ⟨ws ++ [y1], _, _, rfl, Same.mut (Same.new s3 hT) hl, le3.trans (le' _), fun b o q n => get_ne (get_new (f3 b o q n) hT) n, upd_same, Reps.append (rw3.mono (le' _)) (Reps.one (rd'.mono (le' _)))⟩
        · rw [if_neg hx]
          refine ite_f (decide_eq_false hx) ?_
          walk_at "w"
          have len : Le K H' (upd H' Tz (.tup [y1, .ref q])) := Le.new Le.refl hT
          refine ⟨p, x, d, _, _, rfl, rd'.mono len, (rt.mono (Le.same s3)).mono len, by have := E.part_dep ep; omega, fun H4 u s4 r4 => ?_⟩
          walk_at "w"
          have hw4 : H4 l = some (.lst ws) := s4 _ _ (get_new hw hT)
          have le4 : ∀ o, Le K H' (upd H4 l o) := fun o => (len.after s4).lst hw4
          exact ⟨ws ++ [u], _, _, rfl, Same.mut (s3.trans ((Same.new (Same.refl _) hT).trans s4)) hl, le3.trans (le4 _), fun b o q n => get_ne (s4 _ _ (get_new (f3 b o q n) hT)) n, upd_same, Reps.append (rw3.mono (le4 _)) (Reps.one (r4.mono (Le.lst Le.refl hw4)))⟩
      · rintro σ H' ⟨ws, x1, x2, rfl, s3, le3, f3, hw, rw3⟩
        walk_at "w"
        have el : (e.subs x d).length = e.parts.length := by
          unfold E.subs
          rw [List.length_zipWith, E.bnd_len, Nat.min_self]
        rw [l1, ← el, List.take_length] at rw3
        refine ⟨e, _, l, ws, e.subs x d, rfl, r.mono (Le.same s3), hw, rw3, el, fun H4 u s4 r4 => ?_⟩
        rw [E.subs_with x d e fun y q => hy ⟨y, q⟩] at r4
        exact k _ _ (s3.trans s4) r4

end
set_option maxRecDepth 100000
set_option maxHeartbeats 400000
section
variable {P : Program} {w : World} {K : PySem.W.Frag} {mg : Str → Option Value} {base : Heap}

abbrev nm_operated : List Str := ["sign", "one", "two", "number"]
theorem sc_operated : FnScope nm_operated ["sign", "one", "two"] (defScope s_operated) := ⟨rfl, rfl, rfl, by decide +kernel, rfl, by decide +kernel, by decide +kernel⟩
theorem st_operated {a0 a1 a2 : V} : L2.start nm_operated [a0, a1, a2] = [some a0, some a1, some a2, none] := rfl

def sp_operated (K : PySem.W.Frag) : Sp := fun vs H Q _ => ∃ (s : Sg) (i j : Int), vs = [.str s.str, .int i, .int j] ∧ (s = .mul → CMul i j) ∧ ∀ H' u, Same H H' → Rep K H' (opd s i j) u → Q u H'
theorem ok_operated (T : Txt w K mg) : C8.Cal P w K mg base 1 "operated" (sp_operated K) [] := by
  refine calD (k := 0) T.f_operated T.g_operated sc_operated (fun _ _ _ _ _ _ us hl => match us, hl with | [_, _, _], _ => rfl) (fun vs H Q Ex h => ?_) (fun cdv A outer s H vs Q Ex hr h => ⟨_, (pss_cons (ps_if (pt_cmpR op_eq (pv 0) pe_str (by rfl)) (pss_one (ps_ret (pe_tup (pa_cons pe_str (pa_cons (pe_cmpR op_lt (pv 1) (pv 2) (by rfl)) pa_nil))))) pss_nil) (pss_cons (ps_if (pt_cmpR op_eq (pv 0) pe_str (by rfl)) (pss_one (ps_ret (pe_tup (pa_cons pe_str (pa_cons (pe_cmpR op_eq (pv 1) (pv 2) (by rfl)) pa_nil))))) pss_nil) (pss_cons (ps_if (pt_cmpR op_eq (pv 0) pe_str (by rfl)) (pss_one (ps_set (i := 3) sc_operated.nd rfl (by first | exact Or.inl rfl | exact Or.inr rfl) (pe_op op_plus (pv 1) (pv 2)))) (pss_one (ps_if (pt_cmpR op_eq (pv 0) pe_str (by rfl)) (pss_one (ps_set (i := 3) sc_operated.nd rfl (by first | exact Or.inl rfl | exact Or.inr rfl) (pe_op op_sub (pv 1) (pv 2)))) (pss_one (ps_set (i := 3) sc_operated.nd rfl (by first | exact Or.inl rfl | exact Or.inr rfl) (pe_op op_mul (pv 1) (pv 2))))))) (pss_one (ps_ret (pe_tup (pa_cons pe_str (pa_cons (pe_op op_sub (pe_op op_mod (pe_callTy call_int (by rfl) T.z_int (by decide +kernel) (pa_cons (pe_op op_plus (pv 3) (C8.pe_gc (v := V.int 2147483648) (by rfl) (by obtain ⟨t, ht⟩ := T.i_HALF; exact ⟨_, ht, _, rfl⟩))) pa_nil)) (pe_op op_mul pe_int (C8.pe_gc (v := V.int 2147483648) (by rfl) (by obtain ⟨t, ht⟩ := T.i_HALF; exact ⟨_, ht, _, rfl⟩)))) (C8.pe_gc (v := V.int 2147483648) (by rfl) (by obtain ⟨t, ht⟩ := T.i_HALF; exact ⟨_, ht, _, rfl⟩))) pa_nil)))))))), ?_⟩)
  · obtain ⟨s, i, j, rfl, _⟩ := h
    rfl
  · obtain ⟨sg, i, j, rfl, hm, k⟩ := h
    rw [st_operated]
    cases sg with
    | add =>
      walk_at "w"
      exact k _ _ (by walk_at "sm") (by walk_at "rp")
    | sub =>
      walk_at "w"
      exact k _ _ (by walk_at "sm") (by walk_at "rp")
    | mul =>
      have hc := hm rfl
      walk_at "w"
      exact k _ _ (by walk_at "sm") (by walk_at "rp")
    | lt =>
      walk_at "w"
      exact k _ _ (by walk_at "sm") (by walk_at "rp")

abbrev nm_is_value : List Str := ["tree"]
theorem sc_is_value : FnScope nm_is_value ["tree"] (defScope s_is_value) := ⟨rfl, rfl, rfl, by decide +kernel, rfl, by decide +kernel, by decide +kernel⟩
theorem st_is_value {a0 : V} : L2.start nm_is_value [a0] = [some a0] := rfl

def sp_isv0 (K : PySem.W.Frag) : Sp := fun vs H Q _ => ∃ (d : D) (b : Bool) (v : V), vs = [v] ∧ Rep K H d v ∧ IsV d b ∧ (∀ f g, d ≠ .tup [.str "pair", f, g]) ∧ ∀ H', Same H H' → Q (.bl b) H'
def sp_is_value (K : PySem.W.Frag) : Sp := fun vs H Q _ => ∃ (d : D) (b : Bool) (v : V), vs = [v] ∧ Rep K H d v ∧ IsV d b ∧ ∀ H', Same H H' → Q (.bl b) H'
theorem ok_isv0 (T : Txt w K mg) : C8.Cal P w K mg base 1 "is_value" (sp_isv0 K) [] := by
  refine calD (k := 0) T.f_is_value T.g_is_value sc_is_value (fun _ _ _ _ _ _ us hl => match us, hl with | [_], _ => rfl) (fun vs H Q Ex h => ?_) (fun cdv A outer s H vs Q Ex hr h => ⟨_, (pss_cons (ps_if (pt_cmpR op_eq (pe_ix ix_2 (pv 0) pe_int (fun _ _ => rfl)) pe_str (by rfl)) pss_never pss_nil) (pss_one (ps_ret (pe_cmpR op_in_seq (pe_ix ix_2 (pv 0) pe_int (fun _ _ => rfl)) (pe_tup (pa_cons pe_str (pa_cons pe_str (pa_cons pe_str (pa_cons pe_str (pa_cons pe_str (pa_cons pe_str pa_nil))))))) (by rfl))))), ?_⟩)
  · obtain ⟨d, b, v, rfl, _⟩ := h
    rfl
  · obtain ⟨d, b, v, rfl, r, iv, np, k⟩ := h
    rw [st_is_value]
    cases iv with
    | pairQ _ _ => exact absurd rfl (np _ _)
    | pairV _ _ => exact absurd rfl (np _ _)
    | num _ =>
      obtain ⟨a, _, rfl, ha, _, _, rfl, rfl, _, _, rfl, rfl, rfl⟩ := r
      walk_at "w"
      exact k _ (by walk_at "sm")
    | flag _ =>
      obtain ⟨a, _, rfl, ha, _, _, rfl, rfl, _, _, rfl, rfl, rfl⟩ := r
      walk_at "w"
      exact k _ (by walk_at "sm")
    | unit  =>
      obtain ⟨a, _, rfl, ha, _, _, rfl, rfl, rfl⟩ := r
      walk_at "w"
      exact k _ (by walk_at "sm")
    | fn _ _ =>
      obtain ⟨a, _, rfl, ha, _, _, rfl, rfl, _, _, rfl, rfl, _, _, rfl, r1, rfl⟩ := r
      walk_at "w"
      exact k _ (by walk_at "sm")
    | rc _ _ _ =>
      obtain ⟨a, _, rfl, ha, _, _, rfl, rfl, _, _, rfl, rfl, _, _, rfl, rfl, _, _, rfl, r1, rfl⟩ := r
      walk_at "w"
      exact k _ (by walk_at "sm")
    | kept _ =>
      obtain ⟨a, _, rfl, ha, _, _, rfl, rfl, _, _, rfl, r1, rfl⟩ := r
      walk_at "w"
      exact k _ (by walk_at "sm")
    | call _ _ =>
      obtain ⟨a, _, rfl, ha, _, _, rfl, rfl, _, _, rfl, r1, _, _, rfl, r2, rfl⟩ := r
      walk_at "w"
      exact k _ (by walk_at "sm")
    | lt _ _ _ =>
      obtain ⟨a, _, rfl, ha, _, _, rfl, rfl, _, _, rfl, rfl, _, _, rfl, r1, _, _, rfl, r2, rfl⟩ := r
      walk_at "w"
      exact k _ (by walk_at "sm")
    | ite _ _ _ =>
      obtain ⟨a, _, rfl, ha, _, _, rfl, rfl, _, _, rfl, r1, _, _, rfl, r2, _, _, rfl, r3, rfl⟩ := r
      walk_at "w"
      exact k _ (by walk_at "sm")
    | op _ _ _ =>
      obtain ⟨a, _, rfl, ha, _, _, rfl, rfl, _, _, rfl, rfl, _, _, rfl, r1, _, _, rfl, r2, rfl⟩ := r
      walk_at "w"
      exact k _ (by walk_at "sm")
    | print _ _ =>
      obtain ⟨a, _, rfl, ha, _, _, rfl, rfl, _, _, rfl, r1, _, _, rfl, r2, rfl⟩ := r
      walk_at "w"
      exact k _ (by walk_at "sm")
    | ask _ _ =>
      obtain ⟨a, _, rfl, ha, _, _, rfl, rfl, _, _, rfl, rfl, _, _, rfl, r1, rfl⟩ := r
      walk_at "w"
      exact k _ (by walk_at "sm")
    | quoted _ =>
      obtain ⟨a, _, rfl, ha, _, _, rfl, rfl, _, _, rfl, r1, rfl⟩ := r
      walk_at "w"
      exact k _ (by walk_at "sm")
    | handle _ _ _ =>
      obtain ⟨a, _, rfl, ha, _, _, rfl, rfl, _, _, rfl, r1, _, _, rfl, r2, _, _, rfl, r3, rfl⟩ := r
      walk_at "w"
      exact k _ (by walk_at "sm")

theorem ok_is_value (T : Txt w K mg) (c_is_value : C8.Cal P w K mg base 1 "is_value" (sp_isv0 K) []) : C8.Cal P w K mg base 2 "is_value" (sp_is_value K) [] := by
  refine calD (k := 1) T.f_is_value T.g_is_value sc_is_value (fun _ _ _ _ _ _ us hl => match us, hl with | [_], _ => rfl) (fun vs H Q Ex h => ?_) (fun cdv A outer s H vs Q Ex hr h => ⟨_, (pss_cons (ps_if (pt_cmpR op_eq (pe_ix ix_2 (pv 0) pe_int (fun _ _ => rfl)) pe_str (by rfl)) (pss_one (ps_ret (pe_and (C8.pe_c c_is_value hr (by omega) (by rfl) (pa_cons (pe_ix ix_2 (pv 0) pe_int (fun _ _ => rfl)) pa_nil)) (pe_one (C8.pe_c c_is_value hr (by omega) (by rfl) (pa_cons (pe_ix ix_2 (pv 0) pe_int (fun _ _ => rfl)) pa_nil)))))) pss_nil) (pss_one (ps_ret (pe_cmpR op_in_seq (pe_ix ix_2 (pv 0) pe_int (fun _ _ => rfl)) (pe_tup (pa_cons pe_str (pa_cons pe_str (pa_cons pe_str (pa_cons pe_str (pa_cons pe_str (pa_cons pe_str pa_nil))))))) (by rfl))))), ?_⟩)
  · obtain ⟨d, b, v, rfl, _⟩ := h
    rfl
  · obtain ⟨d, b, v, rfl, r, iv, k⟩ := h
    rw [st_is_value]
    cases iv with
    | pairQ q f =>
      obtain ⟨a, _, rfl, ha, _, _, rfl, rfl, _, _, rfl, r1, _, _, rfl, r2, rfl⟩ := r
      walk_at "w"
      refine ⟨_, _, _, rfl, r1, IsV.quoted q, (fun f g e => by cases e), fun H1 s1 => ?_⟩
      walk_at "w"
      exact k _ s1
    | pairV i j =>
      obtain ⟨a, _, rfl, ha, _, _, rfl, rfl, _, _, rfl, r1, _, _, rfl, r2, rfl⟩ := r
      walk_at "w"
      refine ⟨_, _, _, rfl, r1, IsV.num i, (fun f g e => by cases e), fun H1 s1 => ?_⟩
      walk_at "w"
      refine ⟨_, _, _, rfl, r2.mono (Le.same s1), IsV.num j, (fun f g e => by cases e), fun H2 s2 => ?_⟩
      walk_at "w"
      exact k _ (s1.trans s2)
    | num _ =>
      obtain ⟨a, _, rfl, ha, _, _, rfl, rfl, _, _, rfl, rfl, rfl⟩ := r
      walk_at "w"
      exact k _ (by walk_at "sm")
    | flag _ =>
      obtain ⟨a, _, rfl, ha, _, _, rfl, rfl, _, _, rfl, rfl, rfl⟩ := r
      walk_at "w"
      exact k _ (by walk_at "sm")
    | unit  =>
      obtain ⟨a, _, rfl, ha, _, _, rfl, rfl, rfl⟩ := r
      walk_at "w"
      exact k _ (by walk_at "sm")
    | fn _ _ =>
      obtain ⟨a, _, rfl, ha, _, _, rfl, rfl, _, _, rfl, rfl, _, _, rfl, r1, rfl⟩ := r
      walk_at "w"
      exact k _ (by walk_at "sm")
    | rc _ _ _ =>
      obtain ⟨a, _, rfl, ha, _, _, rfl, rfl, _, _, rfl, rfl, _, _, rfl, rfl, _, _, rfl, r1, rfl⟩ := r
      walk_at "w"
      exact k _ (by walk_at "sm")
    | kept _ =>
      obtain ⟨a, _, rfl, ha, _, _, rfl, rfl, _, _, rfl, r1, rfl⟩ := r
      walk_at "w"
      exact k _ (by walk_at "sm")
    | call _ _ =>
      obtain ⟨a, _, rfl, ha, _, _, rfl, rfl, _, _, rfl, r1, _, _, rfl, r2, rfl⟩ := r
      walk_at "w"
      exact k _ (by walk_at "sm")
    | lt _ _ _ =>
      obtain ⟨a, _, rfl, ha, _, _, rfl, rfl, _, _, rfl, rfl, _, _, rfl, r1, _, _, rfl, r2, rfl⟩ := r
      walk_at "w"
      exact k _ (by walk_at "sm")
    | ite _ _ _ =>
      obtain ⟨a, _, rfl, ha, _, _, rfl, rfl, _, _, rfl, r1, _, _, rfl, r2, _, _, rfl, r3, rfl⟩ := r
      walk_at "w"
      exact k _ (by walk_at "sm")
    | op _ _ _ =>
      obtain ⟨a, _, rfl, ha, _, _, rfl, rfl, _, _, rfl, rfl, _, _, rfl, r1, _, _, rfl, r2, rfl⟩ := r
      walk_at "w"
      exact k _ (by walk_at "sm")
    | print _ _ =>
      obtain ⟨a, _, rfl, ha, _, _, rfl, rfl, _, _, rfl, r1, _, _, rfl, r2, rfl⟩ := r
      walk_at "w"
      exact k _ (by walk_at "sm")
    | ask _ _ =>
      obtain ⟨a, _, rfl, ha, _, _, rfl, rfl, _, _, rfl, rfl, _, _, rfl, r1, rfl⟩ := r
      walk_at "w"
      exact k _ (by walk_at "sm")
    | quoted _ =>
      obtain ⟨a, _, rfl, ha, _, _, rfl, rfl, _, _, rfl, r1, rfl⟩ := r
      walk_at "w"
      exact k _ (by walk_at "sm")
    | handle _ _ _ =>
      obtain ⟨a, _, rfl, ha, _, _, rfl, rfl, _, _, rfl, r1, _, _, rfl, r2, _, _, rfl, r3, rfl⟩ := r
      walk_at "w"
      exact k _ (by walk_at "sm")

abbrev nm_shape : List Str := ["value"]
theorem sc_shape : FnScope nm_shape ["value"] (defScope s_shape) := ⟨rfl, rfl, rfl, by decide +kernel, rfl, by decide +kernel, by decide +kernel⟩
theorem st_shape {a0 : V} : L2.start nm_shape [a0] = [some a0] := rfl

def sp_shape0 (K : PySem.W.Frag) : Sp := fun vs H Q _ => ∃ (i : Int) (v : V), vs = [v] ∧ Rep K H (vnum i) v ∧ ∀ H' u, Same H H' → Rep K H' (.tup [.str "int", .int i]) u → Q u H'
def sp_shape (K : PySem.W.Frag) : Sp := fun vs H Q _ => ∃ (i j : Int) (v : V), vs = [v] ∧ Rep K H (.tup [.str "pair", vnum i, vnum j]) v ∧ ∀ H' u, Same H H' → Rep K H' (.tup [.str "pair", .tup [.str "int", .int i], .tup [.str "int", .int j]]) u → Q u H'
theorem ok_shape0 (T : Txt w K mg) : C8.Cal P w K mg base 1 "shape" (sp_shape0 K) [] := by
  refine calD (k := 0) T.f_shape T.g_shape sc_shape (fun _ _ _ _ _ _ us hl => match us, hl with | [_], _ => rfl) (fun vs H Q Ex h => ?_) (fun cdv A outer s H vs Q Ex hr h => ⟨_, (pss_cons (ps_if (pt_cmpR op_eq (pe_ix ix_2 (pv 0) pe_int (fun _ _ => rfl)) pe_str (by rfl)) (pss_one (ps_ret (pe_tup (pa_cons pe_str (pa_cons (pe_ix ix_2 (pv 0) pe_int (fun _ _ => rfl)) pa_nil))))) pss_nil) pss_never), ?_⟩)
  · obtain ⟨i, v, rfl, _⟩ := h
    rfl
  · obtain ⟨i, v, rfl, r, k⟩ := h
    rw [st_shape]
    obtain ⟨a, _, rfl, ha, _, _, rfl, rfl, _, _, rfl, rfl, rfl⟩ := r
    walk_at "w"
    exact k _ _ (by walk_at "sm") (by walk_at "rp")

theorem ok_shape (T : Txt w K mg) (c_shape : C8.Cal P w K mg base 1 "shape" (sp_shape0 K) []) : C8.Cal P w K mg base 2 "shape" (sp_shape K) [] := by
  refine calD (k := 1) T.f_shape T.g_shape sc_shape (fun _ _ _ _ _ _ us hl => match us, hl with | [_], _ => rfl) (fun vs H Q Ex h => ?_) (fun cdv A outer s H vs Q Ex hr h => ⟨_, (pss_cons (ps_if (pt_cmpR op_eq (pe_ix ix_2 (pv 0) pe_int (fun _ _ => rfl)) pe_str (by rfl)) pss_never pss_nil) (pss_cons (ps_if (pt_cmpR op_eq (pe_ix ix_2 (pv 0) pe_int (fun _ _ => rfl)) pe_str (by rfl)) pss_never pss_nil) (pss_cons (ps_if (pt_cmpR op_eq (pe_ix ix_2 (pv 0) pe_int (fun _ _ => rfl)) pe_str (by rfl)) (pss_one (ps_ret (pe_tup (pa_cons pe_str (pa_cons (C8.pe_c c_shape hr (by omega) (by rfl) (pa_cons (pe_ix ix_2 (pv 0) pe_int (fun _ _ => rfl)) pa_nil)) (pa_cons (C8.pe_c c_shape hr (by omega) (by rfl) (pa_cons (pe_ix ix_2 (pv 0) pe_int (fun _ _ => rfl)) pa_nil)) pa_nil)))))) pss_nil) pss_never))), ?_⟩)
  · obtain ⟨i, j, v, rfl, _⟩ := h
    rfl
  · obtain ⟨i, j, v, rfl, r, k⟩ := h
    rw [st_shape]
    obtain ⟨a, _, rfl, ha, _, _, rfl, rfl, _, _, rfl, r1, _, _, rfl, r2, rfl⟩ := r
    walk_at "w"
    refine ⟨i, _, rfl, r1, fun H1 u1 s1 q1 => ?_⟩
    walk_at "w"
    refine ⟨j, _, rfl, r2.mono (Le.same s1), fun H2 u2 s2 q2 => ?_⟩
    walk_at "w"
    exact k _ _ (by walk_at "sm") (by walk_at "rp")

abbrev nm_Run___init__ : List Str := ["self", "expression", "steps"]
theorem sc_Run___init__ : FnScope nm_Run___init__ ["self", "expression", "steps"] (defScope s_Run___init__) := ⟨rfl, rfl, rfl, by decide +kernel, rfl, by decide +kernel, by decide +kernel⟩
theorem st_Run___init__ {a0 a1 a2 : V} : L2.start nm_Run___init__ [a0, a1, a2] = [some a0, some a1, some a2] := rfl

def sp_Run_init (K : PySem.W.Frag) : Sp := fun vs H Q _ => ∃ (x dx : Addr) (d : D) (v : V) (n : Int), vs = [.ref x, v, .int n] ∧ H x = some (.ins (cRun K) dx []) ∧ Rep K H d v ∧ ∀ H', Le K H H' → RunS K H' x ⟨d, [], n, []⟩ → Q .non H'
theorem ok_Run_init (T : Txt w K mg) : C8.Mak P w K mg base 1 "Run" (He.ga K "Run") (sp_Run_init K) [] := by
  refine makD (k := 0) T.mkRun T.g_Run T.f_Run___init__ sc_Run___init__ (fun _ _ _ _ _ _ us hl => match us, hl with | [_, _, _], _ => rfl) (fun vs H Q Ex h => ?_) (fun cdv A outer s H vs Q Ex hr h => ⟨_, (pss_cons (ps_s T.cRun T.nRun_current (pv 0) (pv 1)) (pss_cons (ps_s T.cRun T.nRun_frames (pv 0) (pe_lst pa_nil)) (pss_cons (ps_s T.cRun T.nRun_left (pv 0) (pv 2)) (pss_cons (ps_s T.cRun T.nRun_prints (pv 0) (pe_lst pa_nil)) (pss_one (ps_s T.cRun T.nRun_end (pv 0) pe_non)))))), ?_⟩)
  · obtain ⟨x, dx, d, v, n, rfl, _⟩ := h
    rfl
  · obtain ⟨x, dx, d, v, n, rfl, hx, r, k⟩ := h
    rw [st_Run___init__]
    walk_at "w"
    rename_i lf hf lp hp
    refine k _ (by walk_at "le") ⟨dx, lf, lp, v, [], ⟨by walk_at "lk", by walk_at "lk", by walk_at "lk", ne_of_none (by walk_at "lk") hp, by walk_at "rp", rfl⟩⟩

abbrev nm_Run_counted : List Str := ["self"]
theorem sc_Run_counted : FnScope nm_Run_counted ["self"] (defScope s_Run_counted) := ⟨rfl, rfl, rfl, by decide +kernel, rfl, by decide +kernel, by decide +kernel⟩
theorem st_Run_counted {a0 : V} : L2.start nm_Run_counted [a0] = [some a0] := rfl

def sp_counted (C : Addr) : Sp := fun vs H Q _ => ∃ (x dx : Addr) (fs : List (Str × V)) (j : Int), vs = [.ref x] ∧ H x = some (.ins C dx fs) ∧ fs.lookup ("left" : Str) = some (V.int j) ∧ 0 < j ∧ Nat.ble fs.length 900 = true ∧ Q (.bl true) (upd H x (.ins C dx (putF "left" (.int (j - 1)) fs)))
theorem ok_Run_counted (T : Txt w K mg) : C8.Met P w K mg base 1 (He.ga K "Run") "counted" (sp_counted (cRun K)) [] := by
  refine metD (k := 0) T.cRun T.mRun_counted T.f_Run_counted sc_Run_counted (fun _ _ _ _ _ _ us hl => match us, hl with | [_], _ => rfl) (fun vs H Q Ex h => ?_) (fun cdv A outer s H vs Q Ex hr h => ⟨_, (pss_cons (ps_if (pt_cmpR op_eq (pe_g T.cRun T.nRun_left (pv 0)) pe_int (by rfl)) pss_never pss_nil) (pss_cons (ps_a T.cRun T.nRun_left in_subI (pv 0) pe_int) (pss_one (ps_ret pe_bl)))), ?_⟩)
  · obtain ⟨x, dx, fs, j, rfl, _⟩ := h
    rfl
  · obtain ⟨x, dx, fs, j, rfl, hx, hl, hj, hz, k⟩ := h
    rw [st_Run_counted]
    have hd : decide (V.int j = V.int 0) = false := decide_eq_false fun e => by
      have := V.int.inj e
      omega
    walk_at "w"
    exact k

end
set_option maxRecDepth 100000
set_option maxHeartbeats 400000
section
variable {P : Program} {w : World} {K : PySem.W.Frag} {mg : Str → Option Value} {base : Heap}

abbrev nm_Run_begin : List Str := ["self", "head"]
theorem sc_Run_begin : FnScope nm_Run_begin ["self"] (defScope s_Run_begin) := ⟨rfl, rfl, rfl, by decide +kernel, rfl, by decide +kernel, by decide +kernel⟩
theorem st_Run_begin {a0 : V} : L2.start nm_Run_begin [a0] = [some a0, none] := rfl

def sp_Run_begin (K : PySem.W.Frag) : Sp := fun vs H Q _ => ∃ (x : Addr) (s t : PSt), vs = [.ref x] ∧ RunS K H x s ∧ PBeg s t ∧ ∀ H', Le K H H' → RunS K H' x t → Q .non H'
theorem ok_Run_begin (T : Txt w K mg) : C8.Met P w K mg base 1 (He.ga K "Run") "begin" (sp_Run_begin K) [] := by
  refine metD (k := 0) T.cRun T.mRun_begin T.f_Run_begin sc_Run_begin (fun _ _ _ _ _ _ us hl => match us, hl with | [_], _ => rfl) (fun vs H Q Ex h => ?_) (fun cdv A outer s H vs Q Ex hr h => ⟨_, (pss_cons (ps_set (i := 1) sc_Run_begin.nd rfl (by first | exact Or.inl rfl | exact Or.inr rfl) (pe_ix ix_2 (pe_g T.cRun T.nRun_current (pv 0)) pe_int (fun _ _ => rfl))) (pss_one (ps_if (pt_cmpR op_eq (pv 1) pe_str (by rfl)) (pss_one (ps_s T.cRun T.nRun_current (pv 0) (pe_ix ix_2 (pe_g T.cRun T.nRun_current (pv 0)) pe_int (fun _ _ => rfl)))) (pss_one (ps_if ((pw_or (pt_cmpR op_eq (pv 1) pe_str (by rfl)) (pw_or1 (pt_cmpR op_eq (pv 1) pe_str (by rfl))))).pt (pss_cons (ps_expr (pe_bm PySem.F.plainAttrs_list PySem.F.slot_list_append PySem.F.type_list_append mt_append (pe_g T.cRun T.nRun_frames (pv 0)) (pa_cons (pe_tup (pa_cons (pv 1) (pa_cons (pe_ix ix_2 (pe_g T.cRun T.nRun_current (pv 0)) pe_int (fun _ _ => rfl)) (pa_cons (pe_ix ix_2 (pe_g T.cRun T.nRun_current (pv 0)) pe_int (fun _ _ => rfl)) pa_nil)))) pa_nil))) (pss_one (ps_s T.cRun T.nRun_current (pv 0) (pe_ix ix_2 (pe_g T.cRun T.nRun_current (pv 0)) pe_int (fun _ _ => rfl))))) (pss_one (ps_if (pt_cmpR op_eq (pv 1) pe_str (by rfl)) (pss_cons (ps_expr (pe_bm PySem.F.plainAttrs_list PySem.F.slot_list_append PySem.F.type_list_append mt_append (pe_g T.cRun T.nRun_frames (pv 0)) (pa_cons (pe_tup (pa_cons (pv 1) (pa_cons (pe_ix ix_2 (pe_g T.cRun T.nRun_current (pv 0)) pe_int (fun _ _ => rfl)) pa_nil))) pa_nil))) (pss_one (ps_s T.cRun T.nRun_current (pv 0) (pe_ix ix_2 (pe_g T.cRun T.nRun_current (pv 0)) pe_int (fun _ _ => rfl))))) (pss_one (ps_if (pt_cmpR op_eq (pv 1) pe_str (by rfl)) (pss_cons (ps_expr (pe_bm PySem.F.plainAttrs_list PySem.F.slot_list_append PySem.F.type_list_append mt_append (pe_g T.cRun T.nRun_frames (pv 0)) (pa_cons (pe_tup (pa_cons (pv 1) (pa_cons (pe_ix ix_2 (pe_g T.cRun T.nRun_current (pv 0)) pe_int (fun _ _ => rfl)) (pa_cons (pe_ix ix_2 (pe_g T.cRun T.nRun_current (pv 0)) pe_int (fun _ _ => rfl)) pa_nil)))) pa_nil))) (pss_one (ps_s T.cRun T.nRun_current (pv 0) (pe_ix ix_2 (pe_g T.cRun T.nRun_current (pv 0)) pe_int (fun _ _ => rfl))))) (pss_cons (ps_expr (pe_bm PySem.F.plainAttrs_list PySem.F.slot_list_append PySem.F.type_list_append mt_append (pe_g T.cRun T.nRun_frames (pv 0)) (pa_cons (pe_op op_plus (pe_tup (pa_cons (pv 1) pa_nil)) (pe_slice sl_2 (pe_g T.cRun T.nRun_current (pv 0)) (po_some pe_int) po_none)) pa_nil))) (pss_one (ps_s T.cRun T.nRun_current (pv 0) (pe_ix ix_2 (pe_g T.cRun T.nRun_current (pv 0)) pe_int (fun _ _ => rfl)))))))))))))), ?_⟩)
  · obtain ⟨x, s, t, rfl, _⟩ := h
    rfl
  · obtain ⟨x, s, t, rfl, ⟨dx, lf, lp, vc, vfs, ⟨ho, hf, hp, ne, rc, rf⟩⟩, hb, k⟩ := h
    rw [st_Run_begin]
    cases hb with
    | quoted =>
      dsimp only at ho hf hp rc rf
      obtain ⟨a, _, rfl, ha, _, _, rfl, rfl, _, _, rfl, r1, rfl⟩ := rc
      walk_at "w"
      refine k _ ?_ ?_
      · walk_at "le"
      · apply RunS.mk (dx := dx) (lf := lf) (lp := lp)
        all_goals try dsimp only
        walk_at "lk"
        walk_at "lk"
        walk_at "lk"
        assumption
        walk_at "rp"
        walk_at "rp"
    | lt hl =>
      dsimp only at ho hf hp rc rf
      have zf : vfs.length ≤ 1000 := by rw [rf.length]; exact hl
      obtain ⟨a, _, rfl, ha, _, _, rfl, rfl, _, _, rfl, rfl, _, _, rfl, r1, _, _, rfl, r2, rfl⟩ := rc
      walk_at "w"
      refine k _ ?_ ?_
      · walk_at "le"
      · apply RunS.mk (dx := dx) (lf := lf) (lp := lp)
        all_goals try dsimp only
        walk_at "lk"
        walk_at "lk"
        walk_at "lk"
        assumption
        walk_at "rp"
        walk_at "rp"
    | op hl =>
      dsimp only at ho hf hp rc rf
      have zf : vfs.length ≤ 1000 := by rw [rf.length]; exact hl
      obtain ⟨a, _, rfl, ha, _, _, rfl, rfl, _, _, rfl, rfl, _, _, rfl, r1, _, _, rfl, r2, rfl⟩ := rc
      walk_at "w"
      refine k _ ?_ ?_
      · walk_at "le"
      · apply RunS.mk (dx := dx) (lf := lf) (lp := lp)
        all_goals try dsimp only
        walk_at "lk"
        walk_at "lk"
        walk_at "lk"
        assumption
        walk_at "rp"
        walk_at "rp"
    | ask hl =>
      dsimp only at ho hf hp rc rf
      have zf : vfs.length ≤ 1000 := by rw [rf.length]; exact hl
      obtain ⟨a, _, rfl, ha, _, _, rfl, rfl, _, _, rfl, rfl, _, _, rfl, r1, rfl⟩ := rc
      walk_at "w"
      refine k _ ?_ ?_
      · walk_at "le"
      · apply RunS.mk (dx := dx) (lf := lf) (lp := lp)
        all_goals try dsimp only
        walk_at "lk"
        walk_at "lk"
        walk_at "lk"
        assumption
        walk_at "rp"
        walk_at "rp"
    | call hl =>
      dsimp only at ho hf hp rc rf
      have zf : vfs.length ≤ 1000 := by rw [rf.length]; exact hl
      obtain ⟨a, _, rfl, ha, _, _, rfl, rfl, _, _, rfl, r1, _, _, rfl, r2, rfl⟩ := rc
      walk_at "w"
      refine k _ ?_ ?_
      · walk_at "le"
      · apply RunS.mk (dx := dx) (lf := lf) (lp := lp)
        all_goals try dsimp only
        walk_at "lk"
        walk_at "lk"
        walk_at "lk"
        assumption
        walk_at "rp"
        walk_at "rp"
    | callD hl =>
      dsimp only at ho hf hp rc rf
      have zf : vfs.length ≤ 1000 := by rw [rf.length]; exact hl
      obtain ⟨a, _, rfl, ha, _, _, rfl, rfl, _, _, rfl, r1, _, _, rfl, r2, rfl⟩ := rc
      walk_at "w"
      refine k _ ?_ ?_
      · walk_at "le"
      · apply RunS.mk (dx := dx) (lf := lf) (lp := lp)
        all_goals try dsimp only
        walk_at "lk"
        walk_at "lk"
        walk_at "lk"
        assumption
        walk_at "rp"
        walk_at "rp"
    | ite hl =>
      dsimp only at ho hf hp rc rf
      have zf : vfs.length ≤ 1000 := by rw [rf.length]; exact hl
      obtain ⟨a, _, rfl, ha, _, _, rfl, rfl, _, _, rfl, r1, _, _, rfl, r2, _, _, rfl, r3, rfl⟩ := rc
      walk_at "w"
      refine k _ ?_ ?_
      · walk_at "le"
      · apply RunS.mk (dx := dx) (lf := lf) (lp := lp)
        all_goals try dsimp only
        walk_at "lk"
        walk_at "lk"
        walk_at "lk"
        assumption
        walk_at "rp"
        walk_at "rp"
    | print hl =>
      dsimp only at ho hf hp rc rf
      have zf : vfs.length ≤ 1000 := by rw [rf.length]; exact hl
      obtain ⟨a, _, rfl, ha, _, _, rfl, rfl, _, _, rfl, r1, _, _, rfl, r2, rfl⟩ := rc
      walk_at "w"
      refine k _ ?_ ?_
      · walk_at "le"
      · apply RunS.mk (dx := dx) (lf := lf) (lp := lp)
        all_goals try dsimp only
        walk_at "lk"
        walk_at "lk"
        walk_at "lk"
        assumption
        walk_at "rp"
        walk_at "rp"
    | pair hl =>
      dsimp only at ho hf hp rc rf
      have zf : vfs.length ≤ 1000 := by rw [rf.length]; exact hl
      obtain ⟨a, _, rfl, ha, _, _, rfl, rfl, _, _, rfl, r1, _, _, rfl, r2, rfl⟩ := rc
      walk_at "w"
      refine k _ ?_ ?_
      · walk_at "le"
      · apply RunS.mk (dx := dx) (lf := lf) (lp := lp)
        all_goals try dsimp only
        walk_at "lk"
        walk_at "lk"
        walk_at "lk"
        assumption
        walk_at "rp"
        walk_at "rp"
    | handle hl =>
      dsimp only at ho hf hp rc rf
      have zf : vfs.length ≤ 1000 := by rw [rf.length]; exact hl
      obtain ⟨a, _, rfl, ha, _, _, rfl, rfl, _, _, rfl, r1, _, _, rfl, r2, _, _, rfl, r3, rfl⟩ := rc
      walk_at "w"
      refine k _ ?_ ?_
      · walk_at "le"
      · apply RunS.mk (dx := dx) (lf := lf) (lp := lp)
        all_goals try dsimp only
        walk_at "lk"
        walk_at "lk"
        walk_at "lk"
        assumption
        walk_at "rp"
        walk_at "rp"

end
set_option maxRecDepth 100000
set_option maxHeartbeats 400000
section
variable {P : Program} {w : World} {K : PySem.W.Frag} {mg : Str → Option Value} {base : Heap}

abbrev nm_Run_call : List Str := ["self", "function", "argument", "body"]
theorem sc_Run_call : FnScope nm_Run_call ["self", "function", "argument"] (defScope s_Run_call) := ⟨rfl, rfl, rfl, by decide +kernel, rfl, by decide +kernel, by decide +kernel⟩
theorem st_Run_call {a0 a1 a2 : V} : L2.start nm_Run_call [a0, a1, a2] = [some a0, some a1, some a2, none] := rfl

def sp_Run_call (K : PySem.W.Frag) : Sp := fun vs H Q _ => ∃ (x : Addr) (s t : PSt) (f v : D) (uf uv : V), vs = [.ref x, uf, uv] ∧ RunS K H x s ∧ Rep K H f uf ∧ Rep K H v uv ∧ 0 < s.left ∧ PCall f v s t ∧ ∀ H', Le K H H' → RunS K H' x t → Q .non H'
theorem ok_Run_call (T : Txt w K mg) (m_Run_counted : C8.Met P w K mg base 1 (He.ga K "Run") "counted" (sp_counted (cRun K)) []) (c_quoted : C8.Cal P w K mg base 1 "quoted" (sp_quoted K) []) (c_put_in : C8.Cal P w K mg base 43 "put_in" (sp_put_in K 40) []) : C8.Met P w K mg base 44 (He.ga K "Run") "call" (sp_Run_call K) [] := by
  refine metD (k := 43) T.cRun T.mRun_call T.f_Run_call sc_Run_call (fun _ _ _ _ _ _ us hl => match us, hl with | [_, _, _], _ => rfl) (fun vs H Q Ex h => ?_) (fun cdv A outer s H vs Q Ex hr h => ⟨_, (pss_cons (ps_if (pt_not (pt_tru (C8.pe_mt0 m_Run_counted hr (by omega) (pv 0)))) (pss_one ps_retN) pss_nil) (pss_one (ps_if (pt_cmpR op_eq (pe_ix ix_2 (pv 1) pe_int (fun _ _ => rfl)) pe_str (by rfl)) (pss_cons (ps_expr (pe_bm PySem.F.plainAttrs_list PySem.F.slot_list_extend PySem.F.type_list_extend mt_extT (pe_g T.cRun T.nRun_frames (pv 0)) (pa_cons (pe_ix ix_2 (pv 1) pe_int (fun _ _ => rfl)) pa_nil))) (pss_one (ps_s T.cRun T.nRun_current (pv 0) (pv 2)))) (pss_one (ps_if (pt_cmpR op_eq (pe_ix ix_2 (pv 1) pe_int (fun _ _ => rfl)) pe_str (by rfl)) (pss_one (ps_s T.cRun T.nRun_current (pv 0) (C8.pe_c c_put_in hr (by omega) (by rfl) (pa_cons (pe_ix ix_2 (pv 1) pe_int (fun _ _ => rfl)) (pa_cons (pe_ix ix_2 (pv 1) pe_int (fun _ _ => rfl)) (pa_cons (C8.pe_c c_quoted hr (by omega) (by rfl) (pa_cons (pv 2) pa_nil)) pa_nil)))))) (pss_cons (ps_set (i := 3) sc_Run_call.nd rfl (by first | exact Or.inl rfl | exact Or.inr rfl) (C8.pe_c c_put_in hr (by omega) (by rfl) (pa_cons (pe_ix ix_2 (pv 1) pe_int (fun _ _ => rfl)) (pa_cons (pe_ix ix_2 (pv 1) pe_int (fun _ _ => rfl)) (pa_cons (C8.pe_c c_quoted hr (by omega) (by rfl) (pa_cons (pv 2) pa_nil)) pa_nil))))) (pss_one (ps_s T.cRun T.nRun_current (pv 0) (C8.pe_c c_put_in hr (by omega) (by rfl) (pa_cons (pv 3) (pa_cons (pe_ix ix_2 (pv 1) pe_int (fun _ _ => rfl)) (pa_cons (C8.pe_c c_quoted hr (by omega) (by rfl) (pa_cons (pv 1) pa_nil)) pa_nil)))))))))))), ?_⟩)
  · obtain ⟨x, s, t, f, v, uf, uv, rfl, _⟩ := h
    rfl
  · obtain ⟨x, s, t, f, v, uf, uv, rfl, ⟨dx, lf, lp, vc, vfs, ⟨ho, hf, hp, ne, rc, rf⟩⟩, rF, rV, hl, hb, k⟩ := h
    rw [st_Run_call]
    have hle : (43 : Nat) ≤ 43 := Nat.le_refl _
    cases hb with
    | fn hd =>
      dsimp only at ho hf hp rc rf hl
      obtain ⟨a, _, rfl, ha, _, _, rfl, rfl, _, _, rfl, rfl, _, _, rfl, r1, rfl⟩ := rF
      walk_at "w"
      refine ⟨x, dx, _, _, rfl, ho, rfl, hl, rfl, ?_⟩
      walk_at "w"
      refine ⟨v, _, rfl, rV.mono (by walk_at "le"), fun H1 u1 s1 q1 => ?_⟩
      walk_at "w"
      refine ⟨_, _, v, _, _, rfl, r1.mono (by walk_at "le"), q1, hd, fun H2 u2 s2 q2 => ?_⟩
      walk_at "w"
      refine k _ ?_ ?_
      · walk_at "le"
      · apply RunS.mk (dx := dx) (lf := lf) (lp := lp)
        all_goals try dsimp only
        walk_at "lk"
        walk_at "lk"
        walk_at "lk"
        assumption
        walk_at "rp"
        walk_at "rp"
    | rc hd =>
      dsimp only at ho hf hp rc rf hl
      have rF0 := rF
      obtain ⟨a, _, rfl, ha, _, _, rfl, rfl, _, _, rfl, rfl, _, _, rfl, rfl, _, _, rfl, r1, rfl⟩ := rF
      walk_at "w"
      refine ⟨x, dx, _, _, rfl, ho, rfl, hl, rfl, ?_⟩
      walk_at "w"
      refine ⟨v, _, rfl, rV.mono (by walk_at "le"), fun H1 u1 s1 q1 => ?_⟩
      walk_at "w"
      refine ⟨_, _, v, _, _, rfl, r1.mono (by walk_at "le"), q1, hd, fun H2 u2 s2 q2 => ?_⟩
      walk_at "w"
      refine ⟨_, _, rfl, rF0.mono (by walk_at "le"), fun H3 u3 s3 q3 => ?_⟩
      walk_at "w"
      refine ⟨_, _, _, _, _, rfl, q2.mono (by walk_at "le"), q3, by rw [E.put_dep]; exact hd, fun H4 u4 s4 q4 => ?_⟩
      walk_at "w"
      refine k _ ?_ ?_
      · walk_at "le"
      · apply RunS.mk (dx := dx) (lf := lf) (lp := lp)
        all_goals try dsimp only
        walk_at "lk"
        walk_at "lk"
        walk_at "lk"
        assumption
        walk_at "rp"
        walk_at "rp"
    | kp hn =>
      dsimp only at ho hf hp rc rf hl
      obtain ⟨a, _, rfl, ha, _, _, rfl, rfl, _, _, rfl, r1, rfl⟩ := rF
      obtain ⟨b, zs, rfl, hb, rz⟩ := r1
      obtain ⟨us, rfl, ru⟩ := rz.rev
      have z1 : us.reverse.length + vfs.reverse.length ≤ 1000 := by rw [List.length_reverse, List.length_reverse, ru.length, rf.length]; exact hn
      walk_at "w"
      refine ⟨x, dx, _, _, rfl, ho, rfl, hl, rfl, ?_⟩
      walk_at "w"
      refine k _ ?_ ?_
      · walk_at "le"
      · apply RunS.mk (dx := dx) (lf := lf) (lp := lp) (vfs := us ++ vfs)
        all_goals try dsimp only
        · walk_at "lk"
        · rw [List.reverse_append]
          walk_at "lk"
        · walk_at "lk"
        · assumption
        · walk_at "rp"
        · exact Reps.append (ru.mono (by walk_at "le")) (rf.mono (by walk_at "le"))

abbrev nm_Run_answer : List Str := ["self", "place", "clause", "value", "kept", "body"]
theorem sc_Run_answer : FnScope nm_Run_answer ["self", "place", "clause", "value"] (defScope s_Run_answer) := ⟨rfl, rfl, rfl, by decide +kernel, rfl, by decide +kernel, by decide +kernel⟩
theorem st_Run_answer {a0 a1 a2 a3 : V} : L2.start nm_Run_answer [a0, a1, a2, a3] = [some a0, some a1, some a2, some a3, none, none] := rfl

def sp_Run_answer (K : PySem.W.Frag) : Sp := fun vs H Q _ => ∃ (x : Addr) (c : D) (ks fs : List D) (h : Hd) (l : Int) (p : List Int) (op : Op) (v : D) (uc uv : V), vs = [.ref x, .int fs.length, uc, uv] ∧
  RunS K H x ⟨c, ks ++ fHandle h :: fs, l, p⟩ ∧ Rep K H (h.clause op) uc ∧ Rep K H v uv ∧ (h.at op).1 ≠ .k ∧ (h.at op).2.dep ≤ 40 ∧
  ∀ H', Le K H H' → RunS K H' x ⟨(((h.at op).2.put (h.at op).1 v).put .k (kept (ks ++ [fHandle h]))).d, fs, l, p⟩ → Q .non H'
theorem ok_Run_answer (T : Txt w K mg) (c_quoted : C8.Cal P w K mg base 1 "quoted" (sp_quoted K) []) (c_put_in : C8.Cal P w K mg base 43 "put_in" (sp_put_in K 40) []) : C8.Met P w K mg base 44 (He.ga K "Run") "answer" (sp_Run_answer K) [] := by
  refine metD (k := 43) T.cRun T.mRun_answer T.f_Run_answer sc_Run_answer (fun _ _ _ _ _ _ us hl => match us, hl with | [_, _, _, _], _ => rfl) (fun vs H Q Ex h => ?_) (fun cdv A outer s H vs Q Ex hr h => ⟨_, (pss_cons (ps_set (i := 4) sc_Run_answer.nd rfl (by first | exact Or.inl rfl | exact Or.inr rfl) (pe_tup (pa_cons pe_str (pa_cons (pe_callTy call_tupOf (by rfl) T.z_tuple (by decide +kernel) (pa_cons (pe_slice sl_2 (pe_g T.cRun T.nRun_frames (pv 0)) (po_some (pv 1)) po_none) pa_nil)) pa_nil)))) (pss_cons (ps_s T.cRun T.nRun_frames (pv 0) (pe_slice sl_2 (pe_g T.cRun T.nRun_frames (pv 0)) po_none (po_some (pv 1)))) (pss_cons (ps_set (i := 5) sc_Run_answer.nd rfl (by first | exact Or.inl rfl | exact Or.inr rfl) (pe_ix ix_2 (pv 2) pe_int (fun _ _ => rfl))) (pss_cons (ps_if (pt_cmpR op_ne (pe_ix ix_2 (pv 2) pe_int (fun _ _ => rfl)) (pe_ix ix_2 (pv 2) pe_int (fun _ _ => rfl)) (by rfl)) (pss_one (ps_set (i := 5) sc_Run_answer.nd rfl (by first | exact Or.inl rfl | exact Or.inr rfl) (C8.pe_c c_put_in hr (by omega) (by rfl) (pa_cons (pv 5) (pa_cons (pe_ix ix_2 (pv 2) pe_int (fun _ _ => rfl)) (pa_cons (C8.pe_c c_quoted hr (by omega) (by rfl) (pa_cons (pv 3) pa_nil)) pa_nil)))))) pss_nil) (pss_one (ps_s T.cRun T.nRun_current (pv 0) (C8.pe_c c_put_in hr (by omega) (by rfl) (pa_cons (pv 5) (pa_cons (pe_ix ix_2 (pv 2) pe_int (fun _ _ => rfl)) (pa_cons (C8.pe_c c_quoted hr (by omega) (by rfl) (pa_cons (pv 4) pa_nil)) pa_nil)))))))))), ?_⟩)
  · obtain ⟨x, c, ks, fs, h, l, p, op, v, uc, uv, rfl, _⟩ := h
    rfl
  · obtain ⟨x, c, ks, fs, h, l, p, op, v, uc, uv, rfl, ⟨dx, lf, lp, vc, vfs, ⟨ho, hf, hp, ne, rc, rf⟩⟩, rC, rV, hk, hd, k⟩ := h
    rw [st_Run_answer]
    have hle : (43 : Nat) ≤ 43 := Nat.le_refl _
    dsimp only at ho hf hp rc rf
    have rf2 : Reps K H ((ks ++ [fHandle h]) ++ fs) vfs := by
      rw [List.append_assoc]
      exact rf
    obtain ⟨us, ws, rfl, ru, rw'⟩ := rf2.split
    rw [List.reverse_append] at hf
    have lw : ws.reverse.length = fs.length := by rw [List.length_reverse, rw'.length]
    obtain ⟨a, _, rfl, ha, _, _, rfl, rfl, _, _, rfl, rfl, _, _, rfl, rfl, _, _, rfl, r1, rfl⟩ := rC
    have hne : (!decide (V.str (h.at op).1.str = V.str (Str.ofString "k"))) = true := by
      have e := Nm.dec (h.at op).1 .k
      have e2 : (Nm.k).str = Str.ofString "k" := rfl
      rw [e2] at e
      rw [e, decide_eq_false hk]
      rfl
    walk_at "w"
    refine ⟨v, _, rfl, rV.mono (by walk_at "le"), fun H1 u1 s1 q1 => ?_⟩
    walk_at "w"
    refine ⟨_, _, v, _, _, rfl, r1.mono (by walk_at "le"), q1, hd, fun H2 u2 s2 q2 => ?_⟩
    walk_at "w"
    have rK : Reps K H (ks ++ [fHandle h]).reverse us.reverse := ru.reverse
    refine ⟨kept (ks ++ [fHandle h]), _, rfl, ?_, fun H3 u3 s3 q3 => ?_⟩
    · walk_at "rp"
    walk_at "w"
    refine ⟨_, Nm.k, _, _, _, rfl, q2.mono (by walk_at "le"), q3, by rw [E.put_dep]; exact hd, fun H4 u4 s4 q4 => ?_⟩
    walk_at "w"
    refine k _ ?_ ?_
    · walk_at "le"
    · apply RunS.mk (dx := dx) (lp := lp) (vfs := ws)
      all_goals try dsimp only
      · walk_at "lk"
      · walk_at "lk"
      · walk_at "lk"
      · walk_at "ne"
      · walk_at "rp"
      · walk_at "rp"

end
set_option maxRecDepth 100000
set_option maxHeartbeats 400000
section
variable {P : Program} {w : World} {K : PySem.W.Frag} {mg : Str → Option Value} {base : Heap}

abbrev nm_Run_ask : List Str := ["self", "name", "value", "place", "frame", "clause"]
theorem sc_Run_ask : FnScope nm_Run_ask ["self", "name", "value"] (defScope s_Run_ask) := ⟨rfl, rfl, rfl, by decide +kernel, rfl, by decide +kernel, by decide +kernel⟩
theorem st_Run_ask {a0 a1 a2 : V} : L2.start nm_Run_ask [a0, a1, a2] = [some a0, some a1, some a2, none, none, none] := rfl

def sp_Run_ask (K : PySem.W.Frag) : Sp := fun vs H Q _ => ∃ (x : Addr) (c : D) (ks fs : List D) (h : Hd) (l : Int) (p : List Int) (op : Op) (v : D) (uv : V), vs = [.ref x, .str op.str, uv] ∧
  RunS K H x ⟨c, ks ++ fHandle h :: fs, l, p⟩ ∧ Rep K H v uv ∧ 0 < l ∧ (∀ f ∈ ks, NoH f) ∧ ks.length + fs.length ≤ 1000 ∧ (h.at op).1 ≠ .k ∧ (h.at op).2.dep ≤ 40 ∧
  ∀ H', Le K H H' → RunS K H' x ⟨(((h.at op).2.put (h.at op).1 v).put .k (kept (ks ++ [fHandle h]))).d, fs, l - 1, p⟩ → Q .non H'
theorem atI_rev {vfs : List V} {i n : Nat} {v : V} (hn : vfs.length = n) (h : vfs[i]? = some v) : atI vfs.reverse (0 + (((n : Int) - 0).toNat : Int) - 1 + (i : Int) * (-1)) = some v := by
  have hi : i < vfs.length := (List.getElem?_eq_some_iff.mp h).1
  have e : (0 + (((n : Int) - 0).toNat : Int) - 1 + (i : Int) * (-1)) = ((n - 1 - i : Nat) : Int) := by omega
  rw [e]
  refine atI_nat ?_
  rw [List.getElem?_reverse (by omega)]
  have e2 : vfs.length - 1 - (n - 1 - i) = i := by omega
  rw [e2]
  exact h
theorem ok_Run_ask (T : Txt w K mg) (m_Run_counted : C8.Met P w K mg base 1 (He.ga K "Run") "counted" (sp_counted (cRun K)) []) (m_Run_answer : C8.Met P w K mg base 44 (He.ga K "Run") "answer" (sp_Run_answer K) []) : C8.Met P w K mg base 45 (He.ga K "Run") "ask" (sp_Run_ask K) [] := by
  refine metD (k := 44) T.cRun T.mRun_ask T.f_Run_ask sc_Run_ask (fun _ _ _ _ _ _ us hl => match us, hl with | [_, _, _], _ => rfl) (fun vs H Q Ex h => ?_) (fun cdv A outer s H vs Q Ex hr h => ⟨_, (pss_cons (ps_if (pt_not (pt_tru (C8.pe_mt0 m_Run_counted hr (by omega) (pv 0)))) (pss_one ps_retN) pss_nil) (pss_cons (ps_for PassesOwn.never rfl (pi_revR (by rfl) T.z_reversed (prg_1 (by rfl) T.z_range (pe_callB call_len2 (by rfl) T.z_len PySem.boot_len (pa_cons (pe_g T.cRun T.nRun_frames (pv 0)) pa_nil)))) (pg_name (i := 3) sc_Run_ask.nd rfl (by first | exact Or.inl rfl | exact Or.inr rfl)) (pss_cons (ps_set (i := 4) sc_Run_ask.nd rfl (by first | exact Or.inl rfl | exact Or.inr rfl) (pe_ix ix_2 (pe_g T.cRun T.nRun_frames (pv 0)) (pv 3) (fun _ _ => rfl))) (pss_one (ps_if (pt_cmpR op_eq (pe_ix ix_2 (pv 4) pe_int (fun _ _ => rfl)) pe_str (by rfl)) (pss_one (ps_for PassesOwn.never rfl (pi_tup (pe_ix ix_2 (pv 4) pe_int (fun _ _ => rfl))) (pg_name (i := 5) sc_Run_ask.nd rfl (by first | exact Or.inl rfl | exact Or.inr rfl)) (pss_one (ps_if (pt_cmpR op_eq (pe_ix ix_2 (pv 5) pe_int (fun _ _ => rfl)) (pv 1) (by rfl)) (pss_cons (ps_expr (C8.pe_mt m_Run_answer hr (by omega) (pv 0) (pa_cons (pv 3) (pa_cons (pv 5) (pa_cons (pv 2) pa_nil))))) (pss_one ps_retN)) pss_nil)))) pss_nil)))) pss_never)), ?_⟩)
  · obtain ⟨x, c, ks, fs, h, l, p, op, v, uv, rfl, _⟩ := h
    rfl
  · obtain ⟨x, c, ks, fs, h, l, p, op, v, uv, rfl, rs, rV, hl, hno, hlen, hk, hd, k⟩ := h
    have rs0 := rs
    obtain ⟨dx, lf, lp, vc, vfs, ⟨ho, hf, hp, ne, rc, rf⟩⟩ := rs
    rw [st_Run_ask]
    dsimp only at ho hf hp rc rf
    have lv : vfs.length = ks.length + 1 + fs.length := by
      rw [rf.length, List.length_append, List.length_cons]
      omega
    walk_at "w"
    refine ⟨x, dx, _, _, rfl, ho, rfl, hl, rfl, ?_⟩
    walk_at "w"
    generalize hH1 : upd H x (HO.ins (cRun K) dx (putF (Str.ofString "left") (V.int (l - 1)) (runF vc (V.ref lf) (V.int l) (V.ref lp) V.non))) = H1
    have ho1 : H1 x = some (.ins (cRun K) dx (runF vc (.ref lf) (.int (l - 1)) (.ref lp) .non)) := by
      rw [← hH1]
      exact upd_same
    have hf1 : H1 lf = some (.lst vfs.reverse) := by
      rw [← hH1]
      walk_at "lk"
    have le1 : Le K H H1 := by
      rw [← hH1]
      walk_at "le"
    have rs1 : RunS K H1 x ⟨c, ks ++ fHandle h :: fs, l - 1, p⟩ := by
      refine ⟨dx, lf, lp, vc, vfs, ⟨ho1, hf1, ?_, ne, rc.mono le1, rf.mono le1⟩⟩
      rw [← hH1]
      walk_at "lk"
    have lr : vfs.reverse.length = ks.length + 1 + fs.length := by rw [List.length_reverse]; exact lv
    rw [lr]
    refine ⟨by omega, by omega, by omega, by omega, for_rangeC (fun i σ H' => i ≤ ks.length ∧ H1 = H' ∧ ∃ v3 v4 v5, σ = [some (.ref x), some (.str op.str), some uv, v3, v4, v5]) ⟨Nat.zero_le _, rfl, none, none, none, rfl⟩ ?_ ?_⟩
    · rintro i σ H' hi ⟨hik, rfl, v3, v4, v5, rfl⟩
      have hiv : i < vfs.length := by omega
      obtain ⟨u, hu⟩ : ∃ u, vfs[i]? = some u := ⟨_, List.getElem?_eq_getElem hiv⟩
      obtain ⟨d, hd1, rd⟩ := Reps.get rf hu
      have rd' := rd.mono le1
      have hat := atI_rev lv hu
      by_cases hlt : i < ks.length
      · rw [List.getElem?_append_left hlt] at hd1
        obtain ⟨s, r, rfl, hs⟩ := hno d (List.mem_of_getElem? hd1)
        obtain ⟨a, _, rfl, ha, _, _, rfl, rfl, _⟩ := rd'
        walk_at "w"
        exact ⟨hlt, rfl, _, _, _, rfl⟩
      · have ei : i = ks.length := by omega
        subst ei
        rw [List.getElem?_append_right (Nat.le_refl _), Nat.sub_self] at hd1
        cases hd1
        have ez : (0 + ((((ks.length + 1 + fs.length : Nat) : Int) - 0).toNat : Int) - 1 + (ks.length : Int) * (-1)) = (fs.length : Int) := by omega
        rw [ez] at hat ⊢
        obtain ⟨a, _, rfl, ha, _, _, rfl, rfl, _, _, rfl, rr, _, _, rfl, ⟨b, _, rfl, hb, c1, _, rfl, rc1, c2, _, rfl, rc2, rfl⟩, rfl⟩ := rd'
        walk_at "w"
        refine ⟨b, rfl, ⟨_, hb⟩, for_tup (xs := [c1, c2]) (fun j σ H' => H1 = H' ∧ (op = .get → j = 0) ∧ j ≤ 1 ∧ ∃ v5, σ = [some (.ref x), some (.str op.str), some uv, some (.int fs.length), some (.ref a), v5]) ⟨rfl, fun _ => rfl, by omega, _, rfl⟩ (fun i σ H' _ p => by rw [← p.1]; exact hb) ?_ ?_⟩
        · rintro j y σ H' hy ⟨rfl, hj1, hj2, v5, rfl⟩
          rcases j with _ | _ | j
          · cases hy
            have rc1' := rc1
            obtain ⟨a1, _, rfl, ha1, _, _, rfl, rfl, _⟩ := rc1'
            cases op with
            | get =>
              walk_at "w"
              refine ⟨x, c, ks, fs, h, l - 1, p, .get, v, _, _, rfl, rs1, rc1, rV.mono le1, hk, hd, fun H2 le2 r2 => ?_⟩
              walk_at "w"
              exact k _ (le1.trans le2) r2
            | put =>
              walk_at "w"
              exact ⟨rfl, (fun e => by cases e), by omega, _, rfl⟩
          · cases hy
            have rc2' := rc2
            obtain ⟨a1, _, rfl, ha1, _, _, rfl, rfl, _⟩ := rc2'
            cases op with
            | get => exact absurd (hj1 rfl) (by omega)
            | put =>
              walk_at "w"
              refine ⟨x, c, ks, fs, h, l - 1, p, .put, v, _, _, rfl, rs1, rc2, rV.mono le1, hk, hd, fun H2 le2 r2 => ?_⟩
              walk_at "w"
              exact k _ (le1.trans le2) r2
          · omega
        · rintro σ H' ⟨_, _, h2, _⟩
          exact absurd (show 2 ≤ 1 from h2) (by decide)
    · rintro σ H' ⟨h2, _⟩
      omega

end
set_option maxRecDepth 100000
set_option maxHeartbeats 400000
section
variable {P : Program} {w : World} {K : PySem.W.Frag} {mg : Str → Option Value} {base : Heap}

def endV (i j : Int) : D := .tup [.str "value", .tup [.str "pair", .tup [.str "int", .int i], .tup [.str "int", .int j]]]
def RunE (K : PySem.W.Frag) (H : Hp) (x : Addr) (e : D) (p : List Int) : Prop := ∃ dx lf lp vc n, ∃ b : Addr, H x = some (.ins (cRun K) dx (runF vc (.ref lf) (.int n) (.ref lp) (.ref b))) ∧ H lp = some (.lst (p.map V.int)) ∧ Rep K H e (.ref b)
def sp_Run_go_on (K : PySem.W.Frag) : Sp := fun vs H Q _ => ∃ (x : Addr) (s : PSt), vs = [.ref x] ∧ RunS K H x s ∧ ((∃ t, PGo s t ∧ ∀ H', Le K H H' → RunS K H' x t → Q .non H') ∨
  (∃ i j, s.cur = .tup [.str "pair", vnum i, vnum j] ∧ s.frs = [] ∧ ∀ H', Le K H H' → RunE K H' x (endV i j) s.prints → Q .non H'))
abbrev nm_Run_go_on : List Str := ["self", "frame", "value", "head"]
theorem sc_Run_go_on : FnScope nm_Run_go_on ["self"] (defScope s_Run_go_on) := ⟨rfl, rfl, rfl, by decide +kernel, rfl, by decide +kernel, by decide +kernel⟩
theorem st_Run_go_on {a0 : V} : L2.start nm_Run_go_on [a0] = [some a0, none, none, none] := rfl

theorem ok_Run_go_on (T : Txt w K mg) (m_Run_counted : C8.Met P w K mg base 1 (He.ga K "Run") "counted" (sp_counted (cRun K)) []) (c_quoted : C8.Cal P w K mg base 1 "quoted" (sp_quoted K) []) (c_put_in : C8.Cal P w K mg base 43 "put_in" (sp_put_in K 40) []) (c_operated : C8.Cal P w K mg base 1 "operated" (sp_operated K) []) (c_shape : C8.Cal P w K mg base 2 "shape" (sp_shape K) []) (m_Run_call : C8.Met P w K mg base 44 (He.ga K "Run") "call" (sp_Run_call K) []) (m_Run_ask : C8.Met P w K mg base 45 (He.ga K "Run") "ask" (sp_Run_ask K) []) : C8.Met P w K mg base 46 (He.ga K "Run") "go_on" (sp_Run_go_on K) [] := by
  refine metD (k := 45) T.cRun T.mRun_go_on T.f_Run_go_on sc_Run_go_on (fun _ _ _ _ _ _ us hl => match us, hl with | [_], _ => rfl) (fun vs H Q Ex h => ?_) (fun cdv A outer s H vs Q Ex hr h => ⟨_, (pss_cons (ps_if (pt_not (pt_tru (pe_g T.cRun T.nRun_frames (pv 0)))) (pss_cons (ps_s T.cRun T.nRun_end (pv 0) (pe_tup (pa_cons pe_str (pa_cons (C8.pe_c c_shape hr (by omega) (by rfl) (pa_cons (pe_g T.cRun T.nRun_current (pv 0)) pa_nil)) pa_nil)))) (pss_one ps_retN)) pss_nil) (pss_cons (ps_set (i := 1) sc_Run_go_on.nd rfl (by first | exact Or.inl rfl | exact Or.inr rfl) (pe_bm0 PySem.F.plainAttrs_list PySem.F.slot_list_pop PySem.F.type_list_pop mt_pop (pe_g T.cRun T.nRun_frames (pv 0)))) (pss_cons (ps_set (i := 2) sc_Run_go_on.nd rfl (by first | exact Or.inl rfl | exact Or.inr rfl) (pe_g T.cRun T.nRun_current (pv 0))) (pss_cons (ps_set (i := 3) sc_Run_go_on.nd rfl (by first | exact Or.inl rfl | exact Or.inr rfl) (pe_ix ix_2 (pv 1) pe_int (fun _ _ => rfl))) (pss_one (ps_if ((pw_or (pt_cmpR op_eq (pv 3) pe_str (by rfl)) (pw_or1 (pt_cmpR op_eq (pv 3) pe_str (by rfl))))).pt (pss_cons (ps_expr (pe_bm PySem.F.plainAttrs_list PySem.F.slot_list_append PySem.F.type_list_append mt_append (pe_g T.cRun T.nRun_frames (pv 0)) (pa_cons (pe_tup (pa_cons (pe_op op_plus (pv 3) pe_str) (pa_cons (pv 2) pa_nil))) pa_nil))) (pss_one (ps_s T.cRun T.nRun_current (pv 0) (pe_ix ix_2 (pv 1) pe_int (fun _ _ => rfl))))) (pss_one (ps_if (pt_cmpR op_eq (pv 3) pe_str (by rfl)) (pss_cons (ps_expr (pe_bm PySem.F.plainAttrs_list PySem.F.slot_list_append PySem.F.type_list_append mt_append (pe_g T.cRun T.nRun_frames (pv 0)) (pa_cons (pe_tup (pa_cons pe_str (pa_cons (pe_ix ix_2 (pv 1) pe_int (fun _ _ => rfl)) (pa_cons (pv 2) pa_nil)))) pa_nil))) (pss_one (ps_s T.cRun T.nRun_current (pv 0) (pe_ix ix_2 (pv 1) pe_int (fun _ _ => rfl))))) (pss_one (ps_if (pt_cmpR op_eq (pv 3) pe_str (by rfl)) (pss_one (ps_s T.cRun T.nRun_current (pv 0) (pe_tup (pa_cons pe_str (pa_cons (pe_ix ix_2 (pv 1) pe_int (fun _ _ => rfl)) (pa_cons (pv 2) pa_nil)))))) (pss_one (ps_if (pt_cmpR op_eq (pv 3) pe_str (by rfl)) (pss_one (ps_expr (C8.pe_mt m_Run_call hr (by omega) (pv 0) (pa_cons (pe_ix ix_2 (pv 1) pe_int (fun _ _ => rfl)) (pa_cons (pv 2) pa_nil))))) (pss_one (ps_if (pt_cmpR op_eq (pv 3) pe_str (by rfl)) (pss_one (ps_s T.cRun T.nRun_current (pv 0) (C8.pe_c c_operated hr (by omega) (by rfl) (pa_cons (pe_ix ix_2 (pv 1) pe_int (fun _ _ => rfl)) (pa_cons (pe_ix ix_2 (pe_ix ix_2 (pv 1) pe_int (fun _ _ => rfl)) pe_int (fun _ _ => rfl)) (pa_cons (pe_ix ix_2 (pv 2) pe_int (fun _ _ => rfl)) pa_nil)))))) (pss_one (ps_if (pt_cmpR op_eq (pv 3) pe_str (by rfl)) (pss_one (ps_s T.cRun T.nRun_current (pv 0) (C8.pe_c c_put_in hr (by omega) (by rfl) (pa_cons (pe_ix ix_2 (pv 1) pe_int (fun _ _ => rfl)) (pa_cons (pe_ix ix_2 (pv 1) pe_int (fun _ _ => rfl)) (pa_cons (C8.pe_c c_quoted hr (by omega) (by rfl) (pa_cons (pv 2) pa_nil)) pa_nil)))))) (pss_one (ps_if (pt_cmpR op_eq (pv 3) pe_str (by rfl)) (pss_one (ps_s T.cRun T.nRun_current (pv 0) (pe_ifExp (pt_tru (pe_ix ix_2 (pv 2) pe_int (fun _ _ => rfl))) (pe_ix ix_2 (pv 1) pe_int (fun _ _ => rfl)) (pe_ix ix_2 (pv 1) pe_int (fun _ _ => rfl))))) (pss_one (ps_if (pt_cmpR op_eq (pv 3) pe_str (by rfl)) (pss_cons (ps_expr (pe_bm PySem.F.plainAttrs_list PySem.F.slot_list_append PySem.F.type_list_append mt_append (pe_g T.cRun T.nRun_prints (pv 0)) (pa_cons (pe_ix ix_2 (pv 2) pe_int (fun _ _ => rfl)) pa_nil))) (pss_one (ps_s T.cRun T.nRun_current (pv 0) (pe_ix ix_2 (pv 1) pe_int (fun _ _ => rfl))))) (pss_one (ps_if (pt_cmpR op_eq (pv 3) pe_str (by rfl)) (pss_one (ps_expr (C8.pe_mt m_Run_ask hr (by omega) (pv 0) (pa_cons (pe_ix ix_2 (pv 1) pe_int (fun _ _ => rfl)) (pa_cons (pv 2) pa_nil))))) (pss_one (ps_if (pt_cmpR op_eq (pv 3) pe_str (by rfl)) (pss_one (ps_s T.cRun T.nRun_current (pv 0) (C8.pe_c c_put_in hr (by omega) (by rfl) (pa_cons (pe_ix ix_2 (pe_ix ix_2 (pv 1) pe_int (fun _ _ => rfl)) pe_int (fun _ _ => rfl)) (pa_cons (pe_ix ix_2 (pe_ix ix_2 (pv 1) pe_int (fun _ _ => rfl)) pe_int (fun _ _ => rfl)) (pa_cons (C8.pe_c c_quoted hr (by omega) (by rfl) (pa_cons (pv 2) pa_nil)) pa_nil)))))) pss_never)))))))))))))))))))))))), ?_⟩)
  · obtain ⟨x, s, rfl, _⟩ := h
    rfl
  · obtain ⟨x, s, rfl, ⟨dx, lf, lp, vc, vfs, ⟨ho, hf, hp, ne, rc, rf⟩⟩, hb⟩ := h
    rw [st_Run_go_on]
    rcases hb with ⟨t, hb, k⟩ | ⟨i, j, hc, hfs, k⟩
    · cases hb with
      | call hn =>
        dsimp only at ho hf hp rc rf
        obtain ⟨vf, vfs, rfl, rF, rf⟩ := rf
        have zf : vfs.length ≤ 1000 := by rw [rf.length]; exact hn
        obtain ⟨a, _, rfl, ha, _, _, rfl, rfl, _, _, rfl, r1, rfl⟩ := rF
        walk_at "w"
        refine k _ ?_ ?_
        · walk_at "le"
        · apply RunS.mk (dx := dx) (lf := lf) (lp := lp)
          all_goals try dsimp only
          walk_at "lk"
          walk_at "lk"
          walk_at "lk"
          assumption
          walk_at "rp"
          walk_at "rp"
      | pair hn =>
        dsimp only at ho hf hp rc rf
        obtain ⟨vf, vfs, rfl, rF, rf⟩ := rf
        have zf : vfs.length ≤ 1000 := by rw [rf.length]; exact hn
        obtain ⟨a, _, rfl, ha, _, _, rfl, rfl, _, _, rfl, r1, rfl⟩ := rF
        walk_at "w"
        refine k _ ?_ ?_
        · walk_at "le"
        · apply RunS.mk (dx := dx) (lf := lf) (lp := lp)
          all_goals try dsimp only
          walk_at "lk"
          walk_at "lk"
          walk_at "lk"
          assumption
          walk_at "rp"
          walk_at "rp"
      | op hn =>
        dsimp only at ho hf hp rc rf
        obtain ⟨vf, vfs, rfl, rF, rf⟩ := rf
        have zf : vfs.length ≤ 1000 := by rw [rf.length]; exact hn
        obtain ⟨a, _, rfl, ha, _, _, rfl, rfl, _, _, rfl, rfl, _, _, rfl, r1, rfl⟩ := rF
        walk_at "w"
        refine k _ ?_ ?_
        · walk_at "le"
        · apply RunS.mk (dx := dx) (lf := lf) (lp := lp)
          all_goals try dsimp only
          walk_at "lk"
          walk_at "lk"
          walk_at "lk"
          assumption
          walk_at "rp"
          walk_at "rp"
      | pair2  =>
        dsimp only at ho hf hp rc rf
        obtain ⟨vf, vfs, rfl, rF, rf⟩ := rf
        obtain ⟨a, _, rfl, ha, _, _, rfl, rfl, _, _, rfl, r1, rfl⟩ := rF
        walk_at "w"
        refine k _ ?_ ?_
        · walk_at "le"
        · apply RunS.mk (dx := dx) (lf := lf) (lp := lp)
          all_goals try dsimp only
          walk_at "lk"
          walk_at "lk"
          walk_at "lk"
          assumption
          walk_at "rp"
          walk_at "rp"
      | callFn hl hd =>
        dsimp only at ho hf hp rc rf
        obtain ⟨vf, vfs, rfl, rF, rf⟩ := rf
        obtain ⟨a, _, rfl, ha, _, _, rfl, rfl, _, _, rfl, r1, rfl⟩ := rF
        walk_at "w"
        refine ⟨x, _, _, _, _, _, _, rfl, RunS.mk (dx := dx) (lf := lf) (lp := lp) (vfs := vfs) (s := ⟨_, _, _, _⟩) (by walk_at "lk") (by walk_at "lk") (by walk_at "lk") ne (rc.mono (by walk_at "le")) (rf.mono (by walk_at "le")), r1.mono (by walk_at "le"), rc.mono (by walk_at "le"), hl, .fn hd, fun H1 le1 q1 => ?_⟩
        walk_at "w"
        exact k _ (by walk_at "le") q1
      | callRc hl hd =>
        dsimp only at ho hf hp rc rf
        obtain ⟨vf, vfs, rfl, rF, rf⟩ := rf
        obtain ⟨a, _, rfl, ha, _, _, rfl, rfl, _, _, rfl, r1, rfl⟩ := rF
        walk_at "w"
        refine ⟨x, _, _, _, _, _, _, rfl, RunS.mk (dx := dx) (lf := lf) (lp := lp) (vfs := vfs) (s := ⟨_, _, _, _⟩) (by walk_at "lk") (by walk_at "lk") (by walk_at "lk") ne (rc.mono (by walk_at "le")) (rf.mono (by walk_at "le")), r1.mono (by walk_at "le"), rc.mono (by walk_at "le"), hl, .rc hd, fun H1 le1 q1 => ?_⟩
        walk_at "w"
        exact k _ (by walk_at "le") q1
      | callK hl hn =>
        dsimp only at ho hf hp rc rf
        obtain ⟨vf, vfs, rfl, rF, rf⟩ := rf
        obtain ⟨a, _, rfl, ha, _, _, rfl, rfl, _, _, rfl, r1, rfl⟩ := rF
        walk_at "w"
        refine ⟨x, _, _, _, _, _, _, rfl, RunS.mk (dx := dx) (lf := lf) (lp := lp) (vfs := vfs) (s := ⟨_, _, _, _⟩) (by walk_at "lk") (by walk_at "lk") (by walk_at "lk") ne (rc.mono (by walk_at "le")) (rf.mono (by walk_at "le")), r1.mono (by walk_at "le"), rc.mono (by walk_at "le"), hl, .kp hn, fun H1 le1 q1 => ?_⟩
        walk_at "w"
        exact k _ (by walk_at "le") q1
      | op2 hm =>
        dsimp only at ho hf hp rc rf
        obtain ⟨vf, vfs, rfl, rF, rf⟩ := rf
        obtain ⟨a, _, rfl, ha, _, _, rfl, rfl, _, _, rfl, rfl, _, _, rfl, ⟨b, _, rfl, hb, _, _, rfl, rfl, _, _, rfl, rfl, rfl⟩, rfl⟩ := rF
        obtain ⟨c, _, rfl, hc, _, _, rfl, rfl, _, _, rfl, rfl, rfl⟩ := rc
        walk_at "w"
        refine ⟨_, _, _, rfl, hm, fun H1 u1 s1 q1 => ?_⟩
        walk_at "w"
        refine k _ ?_ ?_
        · walk_at "le"
        · apply RunS.mk (dx := dx) (lf := lf) (lp := lp)
          all_goals try dsimp only
          walk_at "lk"
          walk_at "lk"
          walk_at "lk"
          assumption
          walk_at "rp"
          walk_at "rp"
      | lt hd =>
        dsimp only at ho hf hp rc rf
        obtain ⟨vf, vfs, rfl, rF, rf⟩ := rf
        obtain ⟨a, _, rfl, ha, _, _, rfl, rfl, _, _, rfl, rfl, _, _, rfl, r1, rfl⟩ := rF
        walk_at "w"
        refine ⟨_, _, rfl, rc.mono (by walk_at "le"), fun H1 u1 s1 q1 => ?_⟩
        walk_at "w"
        refine ⟨_, _, _, _, _, rfl, r1.mono (by walk_at "le"), q1, hd, fun H2 u2 s2 q2 => ?_⟩
        walk_at "w"
        refine k _ ?_ ?_
        · walk_at "le"
        · apply RunS.mk (dx := dx) (lf := lf) (lp := lp)
          all_goals try dsimp only
          walk_at "lk"
          walk_at "lk"
          walk_at "lk"
          assumption
          walk_at "rp"
          walk_at "rp"
      | ite  =>
        dsimp only at ho hf hp rc rf
        obtain ⟨vf, vfs, rfl, rF, rf⟩ := rf
        obtain ⟨a, _, rfl, ha, _, _, rfl, rfl, _, _, rfl, r1, _, _, rfl, r2, rfl⟩ := rF
        obtain ⟨c, _, rfl, hc, _, _, rfl, rfl, _, _, rfl, rfl, rfl⟩ := rc
        rename_i b _ _ _ _ _ _ _
        cases b
        all_goals
          walk_at "w"
          refine k _ ?_ ?_
          · walk_at "le"
          · apply RunS.mk (dx := dx) (lf := lf) (lp := lp)
            all_goals try dsimp only
            walk_at "lk"
            walk_at "lk"
            walk_at "lk"
            assumption
            walk_at "rp"
            walk_at "rp"
      | print hn =>
        dsimp only at ho hf hp rc rf
        obtain ⟨vf, vfs, rfl, rF, rf⟩ := rf
        have zp : (List.map V.int ‹List Int›).length ≤ 1000 := by rw [List.length_map]; exact hn
        obtain ⟨a, _, rfl, ha, _, _, rfl, rfl, _, _, rfl, r1, rfl⟩ := rF
        obtain ⟨c, _, rfl, hc, _, _, rfl, rfl, _, _, rfl, rfl, rfl⟩ := rc
        walk_at "w"
        refine k _ ?_ ?_
        · walk_at "le"
        · apply RunS.mk (dx := dx) (lf := lf) (lp := lp)
          all_goals try dsimp only
          walk_at "lk"
          walk_at "lk"
          (rw [List.map_append]; walk_at "lk")
          assumption
          walk_at "rp"
          walk_at "rp"
      | ask hl hno hlen hk hd =>
        dsimp only at ho hf hp rc rf
        obtain ⟨vf, vfs, rfl, rF, rf⟩ := rf
        obtain ⟨a, _, rfl, ha, _, _, rfl, rfl, _, _, rfl, rfl, rfl⟩ := rF
        walk_at "w"
        refine ⟨x, _, _, _, _, _, _, _, _, _, rfl, RunS.mk (dx := dx) (lf := lf) (lp := lp) (vfs := vfs) (s := ⟨_, _, _, _⟩) (by walk_at "lk") (by walk_at "lk") (by walk_at "lk") ne (rc.mono (by walk_at "le")) (rf.mono (by walk_at "le")), rc.mono (by walk_at "le"), hl, hno, hlen, hk, hd, fun H1 le1 q1 => ?_⟩
        walk_at "w"
        exact k _ (by walk_at "le") q1
      | handle hd =>
        dsimp only at ho hf hp rc rf
        obtain ⟨vf, vfs, rfl, rF, rf⟩ := rf
        obtain ⟨a, _, rfl, ha, _, _, rfl, rfl, _, _, rfl, ⟨b, _, rfl, hb, _, _, rfl, rfl, _, _, rfl, r1, rfl⟩, _, _, rfl, r2, rfl⟩ := rF
        walk_at "w"
        refine ⟨_, _, rfl, rc.mono (by walk_at "le"), fun H1 u1 s1 q1 => ?_⟩
        walk_at "w"
        refine ⟨_, _, _, _, _, rfl, r1.mono (by walk_at "le"), q1, hd, fun H2 u2 s2 q2 => ?_⟩
        walk_at "w"
        refine k _ ?_ ?_
        · walk_at "le"
        · apply RunS.mk (dx := dx) (lf := lf) (lp := lp)
          all_goals try dsimp only
          walk_at "lk"
          walk_at "lk"
          walk_at "lk"
          assumption
          walk_at "rp"
          walk_at "rp"
    · obtain ⟨c0, fs0, l0, p0⟩ := s
      dsimp only at ho hf hp rc rf hc hfs
      subst hc hfs
      have e : vfs = [] := rf
      subst e
      walk_at "w"
      refine ⟨_, _, _, rfl, rc, fun H1 u1 s1 q1 => ?_⟩
      walk_at "w"
      refine k _ (by walk_at "le") ⟨dx, lf, lp, _, _, _, by walk_at "lk", by walk_at "lk", by walk_at "rp"⟩

end
set_option maxRecDepth 100000
set_option maxHeartbeats 400000
section
variable {P : Program} {w : World} {K : PySem.W.Frag} {mg : Str → Option Value} {base : Heap}

theorem RunS.same {K : PySem.W.Frag} {H H' : Hp} {x : Addr} {s : PSt} (h : Same H H') : RunS K H x s → RunS K H' x s := fun ⟨dx, lf, lp, vc, vfs, ⟨a, b, c, d, e, f⟩⟩ => ⟨dx, lf, lp, vc, vfs, ⟨h _ _ a, h _ _ b, h _ _ c, d, e.mono (Le.same h), f.mono (Le.same h)⟩⟩
def outD (i j : Int) (p : List Int) : D := .tup [.tup (p.map D.int), endV i j]
theorem reps_ints {K : PySem.W.Frag} {H : Hp} : ∀ p : List Int, Reps K H (p.map D.int) (p.map V.int)
  | [] => rfl
  | i :: r => ⟨.int i, _, rfl, rfl, reps_ints r⟩
def sp_run_plain (K : PySem.W.Frag) : Sp := fun vs H Q _ => ∃ (d : D) (v : V) (n : Int) (i j : Int) (p : List Int) (N : Nat), vs = [v, .int n] ∧ Rep K H d v ∧ PRun N ⟨d, [], n, []⟩ i j p ∧ ∀ H' u, Le K H H' → Rep K H' (outD i j p) u → Q u H'
abbrev nm_run_plain : List Str := ["expression", "steps", "run"]
theorem sc_run_plain : FnScope nm_run_plain ["expression", "steps"] (defScope s_run_plain) := ⟨rfl, rfl, rfl, by decide +kernel, rfl, by decide +kernel, by decide +kernel⟩
theorem st_run_plain {a0 a1 : V} : L2.start nm_run_plain [a0, a1] = [some a0, some a1, none] := rfl

theorem ok_run_plain (T : Txt w K mg) (k_Run : C8.Mak P w K mg base 1 "Run" (He.ga K "Run") (sp_Run_init K) []) (c_is_value : C8.Cal P w K mg base 2 "is_value" (sp_is_value K) []) (m_Run_go_on : C8.Met P w K mg base 46 (He.ga K "Run") "go_on" (sp_Run_go_on K) []) (m_Run_begin : C8.Met P w K mg base 1 (He.ga K "Run") "begin" (sp_Run_begin K) []) : C8.Cal P w K mg base 47 "run_plain" (sp_run_plain K) [] := by
  refine calD (k := 46) T.f_run_plain T.g_run_plain sc_run_plain (fun _ _ _ _ _ _ us hl => match us, hl with | [_, _], _ => rfl) (fun vs H Q Ex h => ?_) (fun cdv A outer s H vs Q Ex hr h => ⟨_, (pss_cons (ps_set (i := 2) sc_run_plain.nd rfl (by first | exact Or.inl rfl | exact Or.inr rfl) (C8.pe_mk k_Run hr (by omega) (by rfl) (pa_cons (pv 0) (pa_cons (pv 1) pa_nil)))) (pss_cons (ps_while PassesOwn.never (pt_cmpR op_isNn (pe_g T.cRun T.nRun_end (pv 2)) pe_non (by rfl)) (pss_one (ps_if (pt_tru (C8.pe_c c_is_value hr (by omega) (by rfl) (pa_cons (pe_g T.cRun T.nRun_current (pv 2)) pa_nil))) (pss_one (ps_expr (C8.pe_mt0 m_Run_go_on hr (by omega) (pv 2)))) (pss_one (ps_expr (C8.pe_mt0 m_Run_begin hr (by omega) (pv 2))))))) (pss_one (ps_ret (pe_tup (pa_cons (pe_callTy call_tupOf (by rfl) T.z_tuple (by decide +kernel) (pa_cons (pe_g T.cRun T.nRun_prints (pv 2)) pa_nil)) (pa_cons (pe_g T.cRun T.nRun_end (pv 2)) pa_nil))))))), ?_⟩)
  · obtain ⟨d, v, n, i, j, p, N, rfl, _⟩ := h
    rfl
  · obtain ⟨d, v, n, i, j, p, N, rfl, rd, hrun, k⟩ := h
    rw [st_run_plain]
    walk_at "w"
    intro x dx hx hdx nx
    have hx2 : upd H dx (.own x) x = none := by rw [upd_ne nx.symm]; exact hx
    refine ⟨x, dx, d, v, n, rfl, by walk_at "lk", rd.mono (by walk_at "le"), fun H1 le1 r1 => ⟨rfl, ?_⟩⟩
    have le01 : Le K H H1 := Le.trans (by walk_at "le") le1
    walk_at "w"
    refine ⟨fun m σ H' => σ = [some v, some (.int n), some (.ref x)] ∧ Le K H H' ∧ ((∃ s k, RunS K H' x s ∧ PRun k s i j p ∧ m = k + 1) ∨ (m = 0 ∧ RunE K H' x (endV i j) p)), ⟨N + 1, rfl, le01, .inl ⟨_, N, r1, hrun, rfl⟩⟩, ?_⟩
    rintro m σ H2 ⟨rfl, le2, hs | ⟨rfl, he⟩⟩
    · obtain ⟨s, k', rs, hr', rfl⟩ := hs
      obtain ⟨dx, lf, lp, vc, vfs, ⟨ho, hf, hp, ne, rc, rf⟩⟩ := id rs
      walk_at "w"
      refine ⟨fun σ' H' => ∃ m', m' < k' + 1 ∧ (σ' = [some v, some (.int n), some (.ref x)] ∧ Le K H H' ∧ ((∃ s k, RunS K H' x s ∧ PRun k s i j p ∧ m' = k + 1) ∨ (m' = 0 ∧ RunE K H' x (endV i j) p))), fun σ' H' h => h, ?_⟩
      walk_at "w"
      cases hr' with
      | done =>
        refine ⟨_, _, _, rfl, rc, IsV.pairV _ _, fun H3 s3 => ?_⟩
        walk_at "w"
        refine ⟨x, _, rfl, rs.same s3, .inr ⟨_, _, rfl, rfl, fun H4 le4 r4 => ?_⟩⟩
        walk_at "w"
        exact ⟨0, by omega, rfl, (le2.after s3).trans le4, .inr ⟨rfl, r4⟩⟩
      | step hst hr2 =>
        cases hst with
        | beg iv hb =>
          refine ⟨_, _, _, rfl, rc, iv, fun H3 s3 => ?_⟩
          walk_at "w"
          refine ⟨x, _, _, rfl, rs.same s3, hb, fun H4 le4 r4 => ?_⟩
          walk_at "w"
          exact ⟨_, by omega, rfl, (le2.after s3).trans le4, .inl ⟨_, _, r4, hr2, rfl⟩⟩
        | go iv hg =>
          refine ⟨_, _, _, rfl, rc, iv, fun H3 s3 => ?_⟩
          walk_at "w"
          refine ⟨x, _, rfl, rs.same s3, .inl ⟨_, hg, fun H4 le4 r4 => ?_⟩⟩
          walk_at "w"
          exact ⟨_, by omega, rfl, (le2.after s3).trans le4, .inl ⟨_, _, r4, hr2, rfl⟩⟩
    · obtain ⟨dx, lf, lp, vc, n', b, ho, hp, re⟩ := he
      walk_at "w"
      have ri : Reps K H2 (p.map D.int) (p.map V.int) := reps_ints p
      refine k _ _ ?_ ?_
      · walk_at "le"
      · unfold outD
        walk_at "rp"

end
set_option maxRecDepth 100000
set_option maxHeartbeats 400000
section
variable {P : Program} {w : World} {K : PySem.W.Frag} {mg : Str → Option Value} {base : Heap}

abbrev nm_looked_up : List Str := ["env", "name"]
theorem sc_looked_up : FnScope nm_looked_up ["env", "name"] (defScope s_looked_up) := ⟨rfl, rfl, rfl, by decide +kernel, rfl, by decide +kernel, by decide +kernel⟩
theorem st_looked_up {a0 a1 : V} : L2.start nm_looked_up [a0, a1] = [some a0, some a1] := rfl

def sp_looked_up (K : PySem.W.Frag) : Sp := fun vs H Q _ => ∃ (n : Nat) (x : Nm) (env v : D) (ve : V), vs = [ve, .str x.str] ∧ Rep K H env ve ∧ Look n env x v ∧ ∀ u, Rep K H v u → Q u H
theorem ok_looked_up (T : Txt w K mg) : C8.Cal P w K mg base 1 "looked_up" (sp_looked_up K) [] := by
  refine calD (k := 0) T.f_looked_up T.g_looked_up sc_looked_up (fun _ _ _ _ _ _ us hl => match us, hl with | [_, _], _ => rfl) (fun vs H Q Ex h => ?_) (fun cdv A outer s H vs Q Ex hr h => ⟨_, (pss_cons (ps_while PassesOwn.never (pt_cmpR op_ne (pe_ix ix_2 (pv 0) pe_int (fun _ _ => rfl)) (pv 1) (by rfl)) (pss_one (ps_set (i := 0) sc_looked_up.nd rfl (by first | exact Or.inl rfl | exact Or.inr rfl) (pe_ix ix_2 (pv 0) pe_int (fun _ _ => rfl))))) (pss_one (ps_ret (pe_ix ix_2 (pv 0) pe_int (fun _ _ => rfl))))), ?_⟩)
  · obtain ⟨n, x, env, v, ve, rfl, _⟩ := h
    rfl
  · obtain ⟨n, x, env, v, ve, rfl, re, lk, k⟩ := h
    rw [st_looked_up]
    walk_at "w"
    refine ⟨fun m σ H' => H' = H ∧ ∃ env ve, σ = [some ve, some (.str x.str)] ∧ Rep K H env ve ∧ Look m env x v, ⟨n, rfl, env, ve, rfl, re, lk⟩, ?_⟩
    rintro m σ H' ⟨rfl, env, ve, rfl, re, lk⟩
    cases lk with
    | here =>
      obtain ⟨a, _, rfl, ha, _, _, rfl, rfl, _, _, rfl, r1, _, _, rfl, r2, rfl⟩ := re
      walk_at "w"
      have e : (!decide (V.str x.str = V.str x.str)) = false := by simp
      rw [e]
      walk_at "w"
      exact k _ r1
    | there hy lk =>
      obtain ⟨a, _, rfl, ha, _, _, rfl, rfl, _, _, rfl, r1, _, _, rfl, r2, rfl⟩ := re
      walk_at "w"
      rw [Nm.dec, decide_eq_false hy]
      walk_at "w"
      refine ⟨_, fun σ' H' p => p, ?_⟩
      walk_at "w"
      exact ⟨_, Nat.lt_succ_self _, rfl, _, _, rfl, r2, lk⟩

abbrev nm_calculated : List Str := ["sign", "one", "two", "numbers"]
theorem sc_calculated : FnScope nm_calculated ["sign", "one", "two"] (defScope s_calculated) := ⟨rfl, rfl, rfl, by decide +kernel, rfl, by decide +kernel, by decide +kernel⟩
theorem st_calculated {a0 a1 a2 : V} : L2.start nm_calculated [a0, a1, a2] = [some a0, some a1, some a2, none] := rfl

def sp_calculated (K : PySem.W.Frag) : Sp := fun vs H Q _ => ∃ (s : Sg) (i j : Int), vs = [.str s.str, .int i, .int j] ∧ CMul i j ∧ ∀ H' u, Same H H' → Rep K H' (mopd s i j) u → Q u H'
theorem ok_calculated (T : Txt w K mg) : C8.Cal P w K mg base 1 "calculated" (sp_calculated K) [] := by
  refine calD (k := 0) T.f_calculated T.g_calculated sc_calculated (fun _ _ _ _ _ _ us hl => match us, hl with | [_, _, _], _ => rfl) (fun vs H Q Ex h => ?_) (fun cdv A outer s H vs Q Ex hr h => ⟨_, (pss_cons (ps_if (pt_cmpR op_eq (pv 0) pe_str (by rfl)) (pss_one (ps_ret (pe_tup (pa_cons pe_str (pa_cons (pe_cmpR op_lt (pv 1) (pv 2) (by rfl)) pa_nil))))) pss_nil) (pss_cons (ps_if (pt_cmpR op_eq (pv 0) pe_str (by rfl)) (pss_one (ps_ret (pe_tup (pa_cons pe_str (pa_cons (pe_cmpR op_eq (pv 1) (pv 2) (by rfl)) pa_nil))))) pss_nil) (pss_cons (ps_set (i := 3) sc_calculated.nd rfl (by first | exact Or.inl rfl | exact Or.inr rfl) (pe_disp (pps_cons pe_str (pe_op op_plus (pv 1) (pv 2)) (pps_cons pe_str (pe_op op_sub (pv 1) (pv 2)) (pps_cons pe_str (pe_op op_mul (pv 1) (pv 2)) pps_nil))) (by rfl) (by rfl) (fun z => by cases z) (by decide))) (pss_one (ps_ret (pe_tup (pa_cons pe_str (pa_cons (pe_op op_sub (pe_op op_mod (pe_callTy call_int (by rfl) T.z_int (by decide +kernel) (pa_cons (pe_op op_plus (pe_dget (hu_of hr) (pv 3) (pv 0) (fun _ _ => rfl)) (C8.pe_gc (v := V.int 2147483648) (by rfl) (by obtain ⟨t, ht⟩ := T.i_HALF; exact ⟨_, ht, _, rfl⟩))) pa_nil)) (pe_op op_mul pe_int (C8.pe_gc (v := V.int 2147483648) (by rfl) (by obtain ⟨t, ht⟩ := T.i_HALF; exact ⟨_, ht, _, rfl⟩)))) (C8.pe_gc (v := V.int 2147483648) (by rfl) (by obtain ⟨t, ht⟩ := T.i_HALF; exact ⟨_, ht, _, rfl⟩))) pa_nil)))))))), ?_⟩)
  · obtain ⟨s, i, j, rfl, _⟩ := h
    rfl
  · obtain ⟨sg, i, j, rfl, hm, k⟩ := h
    rw [st_calculated]
    cases sg with
    | add =>
      walk_at "w"
      intro p hp
      walk_at "w"
      refine ⟨upd_same, [(.inr "+", .int (i + j)), (.inr "-", .int (i - j)), (.inr "*", .int (i * j))], rfl, ble_le rfl, ?_⟩
      walk_at "w"
      refine ⟨p, _, rfl, DGet.k (k := .inr "+") upd_same, ?_⟩
      walk_at "w"
      exact k _ _ (Same.new (Same.mut (Same.new (Same.refl _) hp) hp) (by assumption)) (by walk_at "rp")
    | sub =>
      walk_at "w"
      intro p hp
      walk_at "w"
      refine ⟨upd_same, [(.inr "+", .int (i + j)), (.inr "-", .int (i - j)), (.inr "*", .int (i * j))], rfl, ble_le rfl, ?_⟩
      walk_at "w"
      refine ⟨p, _, rfl, DGet.k (k := .inr "-") upd_same, ?_⟩
      walk_at "w"
      exact k _ _ (Same.new (Same.mut (Same.new (Same.refl _) hp) hp) (by assumption)) (by walk_at "rp")
    | mul =>
      walk_at "w"
      intro p hp
      walk_at "w"
      refine ⟨upd_same, [(.inr "+", .int (i + j)), (.inr "-", .int (i - j)), (.inr "*", .int (i * j))], rfl, ble_le rfl, ?_⟩
      walk_at "w"
      refine ⟨p, _, rfl, DGet.k (k := .inr "*") upd_same, ?_⟩
      walk_at "w"
      exact k _ _ (Same.new (Same.mut (Same.new (Same.refl _) hp) hp) (by assumption)) (by walk_at "rp")
    | lt =>
      walk_at "w"
      exact k _ _ (by walk_at "sm") (by walk_at "rp")

def sp_vshape0 (K : PySem.W.Frag) : Sp := fun vs H Q _ => ∃ (i : Int) (v : V), vs = [v] ∧ Rep K H (vi i) v ∧ ∀ H', Same H H' → Q v H'
def sp_vshape (K : PySem.W.Frag) : Sp := fun vs H Q _ => ∃ (i j : Int) (v : V), vs = [v] ∧ Rep K H (.tup [.str "pair", vi i, vi j]) v ∧ ∀ H' u, Same H H' → Rep K H' (.tup [.str "pair", vi i, vi j]) u → Q u H'
abbrev nm_value_shape : List Str := ["value"]
theorem sc_value_shape : FnScope nm_value_shape ["value"] (defScope s_value_shape) := ⟨rfl, rfl, rfl, by decide +kernel, rfl, by decide +kernel, by decide +kernel⟩
theorem st_value_shape {a0 : V} : L2.start nm_value_shape [a0] = [some a0] := rfl

theorem ok_vshape0 (T : Txt w K mg) : C8.Cal P w K mg base 1 "value_shape" (sp_vshape0 K) [] := by
  refine calD (k := 0) T.f_value_shape T.g_value_shape sc_value_shape (fun _ _ _ _ _ _ us hl => match us, hl with | [_], _ => rfl) (fun vs H Q Ex h => ?_) (fun cdv A outer s H vs Q Ex hr h => ⟨_, (pss_cons (ps_if (pt_cmpR op_eq (pe_ix ix_2 (pv 0) pe_int (fun _ _ => rfl)) pe_str (by rfl)) pss_never pss_nil) (pss_cons (ps_if (pt_cmpR op_in_seq (pe_ix ix_2 (pv 0) pe_int (fun _ _ => rfl)) (pe_tup (pa_cons pe_str (pa_cons pe_str (pa_cons pe_str pa_nil)))) (by rfl)) (pss_one (ps_ret (pv 0))) pss_nil) pss_never)), ?_⟩)
  · obtain ⟨i, v, rfl, _⟩ := h
    rfl
  · obtain ⟨i, v, rfl, r, k⟩ := h
    rw [st_value_shape]
    obtain ⟨a, _, rfl, ha, _, _, rfl, rfl, _, _, rfl, rfl, rfl⟩ := r
    walk_at "w"
    exact k _ (by walk_at "sm")

theorem ok_vshape (T : Txt w K mg) (c_value_shape : C8.Cal P w K mg base 1 "value_shape" (sp_vshape0 K) []) : C8.Cal P w K mg base 2 "value_shape" (sp_vshape K) [] := by
  refine calD (k := 1) T.f_value_shape T.g_value_shape sc_value_shape (fun _ _ _ _ _ _ us hl => match us, hl with | [_], _ => rfl) (fun vs H Q Ex h => ?_) (fun cdv A outer s H vs Q Ex hr h => ⟨_, (pss_cons (ps_if (pt_cmpR op_eq (pe_ix ix_2 (pv 0) pe_int (fun _ _ => rfl)) pe_str (by rfl)) (pss_one (ps_ret (pe_tup (pa_cons pe_str (pa_cons (C8.pe_c c_value_shape hr (by omega) (by rfl) (pa_cons (pe_ix ix_2 (pv 0) pe_int (fun _ _ => rfl)) pa_nil)) (pa_cons (C8.pe_c c_value_shape hr (by omega) (by rfl) (pa_cons (pe_ix ix_2 (pv 0) pe_int (fun _ _ => rfl)) pa_nil)) pa_nil)))))) pss_nil) pss_never), ?_⟩)
  · obtain ⟨i, j, v, rfl, _⟩ := h
    rfl
  · obtain ⟨i, j, v, rfl, r, k⟩ := h
    rw [st_value_shape]
    obtain ⟨a, _, rfl, ha, _, _, rfl, rfl, _, _, rfl, r1, _, _, rfl, r2, rfl⟩ := r
    walk_at "w"
    refine ⟨i, _, rfl, r1, fun H1 s1 => ?_⟩
    walk_at "w"
    refine ⟨j, _, rfl, r2.mono (Le.same s1), fun H2 s2 => ?_⟩
    walk_at "w"
    exact k _ _ (by walk_at "sm") (by walk_at "rp")

abbrev nm_Machine___init__ : List Str := ["self", "steps"]
theorem sc_Machine___init__ : FnScope nm_Machine___init__ ["self", "steps"] (defScope s_Machine___init__) := ⟨rfl, rfl, rfl, by decide +kernel, rfl, by decide +kernel, by decide +kernel⟩
theorem st_Machine___init__ {a0 a1 : V} : L2.start nm_Machine___init__ [a0, a1] = [some a0, some a1] := rfl

def sp_Mac_init (K : PySem.W.Frag) : Sp := fun vs H Q _ => ∃ (x dx : Addr) (n : Int), vs = [.ref x, .int n] ∧ H x = some (.ins (cMac K) dx []) ∧ ∀ H', Le K H H' → MachS K H' x ⟨.non, [], none, n, []⟩ → Q .non H'
theorem ok_Mac_init (T : Txt w K mg) : C8.Mak P w K mg base 1 "Machine" (He.ga K "Machine") (sp_Mac_init K) [] := by
  refine makD (k := 0) T.mkMachine T.g_Machine T.f_Machine___init__ sc_Machine___init__ (fun _ _ _ _ _ _ us hl => match us, hl with | [_, _], _ => rfl) (fun vs H Q Ex h => ?_) (fun cdv A outer s H vs Q Ex hr h => ⟨_, (pss_cons (ps_s T.cMachine T.nMachine_left (pv 0) (pv 1)) (pss_cons (ps_s T.cMachine T.nMachine_prints (pv 0) (pe_lst pa_nil)) (pss_cons (ps_s T.cMachine T.nMachine_pieces (pv 0) (pe_lst (pa_cons (pe_tup (pa_cons pe_non (pa_cons (pe_lst pa_nil) pa_nil))) pa_nil))) (pss_cons (ps_s T.cMachine T.nMachine_kept (pv 0) pe_int) (pss_one (ps_s T.cMachine T.nMachine_most (pv 0) pe_int)))))), ?_⟩)
  · obtain ⟨x, dx, n, rfl, _⟩ := h
    rfl
  · obtain ⟨x, dx, n, rfl, hx, k⟩ := h
    rw [st_Machine___init__]
    walk_at "w"
    rename_i lp hp lf hf vp hvp lq hq
    refine k _ (by walk_at "le") ?_
    apply MachS.mk (dx := dx) (lp := lp) (lq := lq) (lf := lf) (vp := vp) (vfs := []) (pre := []) (k := 0) (m := 1)
    all_goals try dsimp only
    · walk_at "lk"
    · walk_at "lk"
    · walk_at "lk"
    · walk_at "lk"
    · walk_at "lk"
    · rfl
    · rfl
    · walk_at "ne"
    · walk_at "ne"
    · walk_at "ne"
    · rfl

abbrev nm_Machine_step : List Str := ["self"]
theorem sc_Machine_step : FnScope nm_Machine_step ["self"] (defScope s_Machine_step) := ⟨rfl, rfl, rfl, by decide +kernel, rfl, by decide +kernel, by decide +kernel⟩
theorem st_Machine_step {a0 : V} : L2.start nm_Machine_step [a0] = [some a0] := rfl

def sp_step (C : Addr) : Sp := fun vs H Q _ => ∃ (x dx : Addr) (fs : List (Str × V)) (j : Int), vs = [.ref x] ∧ H x = some (.ins C dx fs) ∧ fs.lookup ("left" : Str) = some (V.int j) ∧ 0 < j ∧ Nat.ble fs.length 900 = true ∧ Q .non (upd H x (.ins C dx (putF "left" (.int (j - 1)) fs)))
theorem ok_Mac_step (T : Txt w K mg) : C8.Met P w K mg base 1 (He.ga K "Machine") "step" (sp_step (cMac K)) [] := by
  refine metD (k := 0) T.cMachine T.mMachine_step T.f_Machine_step sc_Machine_step (fun _ _ _ _ _ _ us hl => match us, hl with | [_], _ => rfl) (fun vs H Q Ex h => ?_) (fun cdv A outer s H vs Q Ex hr h => ⟨_, (pss_cons (ps_if (pt_cmpR op_eq (pe_g T.cMachine T.nMachine_left (pv 0)) pe_int (by rfl)) pss_never pss_nil) (pss_one (ps_a T.cMachine T.nMachine_left in_subI (pv 0) pe_int))), ?_⟩)
  · obtain ⟨x, dx, fs, j, rfl, _⟩ := h
    rfl
  · obtain ⟨x, dx, fs, j, rfl, hx, hl, hj, hz, k⟩ := h
    rw [st_Machine_step]
    have hd : decide (V.int j = V.int 0) = false := decide_eq_false fun e => by
      have := V.int.inj e
      omega
    walk_at "w"
    exact k

abbrev nm_Machine_wait : List Str := ["self", "frame"]
theorem sc_Machine_wait : FnScope nm_Machine_wait ["self", "frame"] (defScope s_Machine_wait) := ⟨rfl, rfl, rfl, by decide +kernel, rfl, by decide +kernel, by decide +kernel⟩
theorem st_Machine_wait {a0 a1 : V} : L2.start nm_Machine_wait [a0, a1] = [some a0, some a1] := rfl

def sp_wait (K : PySem.W.Frag) : Sp := fun vs H Q _ => ∃ (x b : Addr) (hd : D) (fs : List D) (lo : Option (List D)) (l : Int) (p : List Int) (f : D), vs = [.ref x, .ref b] ∧ MachS K H x ⟨hd, fs, lo, l, p⟩ ∧ Rep K H f (.ref b) ∧ fs.length ≤ 1000 ∧ ∀ H', Le K H H' → MachS K H' x ⟨hd, f :: fs, lo, l, p⟩ → Q .non H'
theorem ok_Mac_wait (T : Txt w K mg) : MetV P w K mg base 1 (He.ga K "Machine") "wait" (starSp (sp_wait K)) := by
  refine metV (k := 0) T.cMachine T.mMachine_wait T.f_Machine_wait sc_Machine_wait (fun _ _ _ _ _ _ => bindV3 (fun _ => rfl) (fun _ _ => rfl) (fun _ _ _ => rfl) (fun _ _ _ _ => rfl)) (fun cdv A outer s H vs Q Ex hr h => ⟨_, (pss_one (ps_expr (pe_bm PySem.F.plainAttrs_list PySem.F.slot_list_append PySem.F.type_list_append mt_append (pe_ix ix_2 (pe_ix ix_2 (pe_g T.cMachine T.nMachine_pieces (pv 0)) (pe_un un_neg pe_int) (fun _ _ => rfl)) pe_int (fun _ _ => rfl)) (pa_cons (pv 1) pa_nil)))), ?_⟩)
  · obtain ⟨x, b, hd, fs, lo, l, p, f, rfl, ⟨dx, lp, lq, lf, vp, vh, vfs, pre, kk, mm, ⟨ho, hp, hq, ht, hf, rh, rf, n1, n2, n3, hlo⟩⟩, rF, hl, k⟩ := h
    rw [st_Machine_wait]
    dsimp only at ho hp hq ht hf rh rf hlo
    have zf : vfs.length ≤ 100000 := by rw [rf.length]; omega
    walk_at "w"
    refine k _ (by walk_at "le") ?_
    apply MachS.mk (dx := dx) (lp := lp) (lq := lq) (lf := lf) (vp := vp)
    all_goals try dsimp only
    · walk_at "lk"
    · walk_at "lk"
    · walk_at "lk"
    · walk_at "lk"
    · walk_at "lk"
    · walk_at "rp"
    · walk_at "rp"
    · assumption
    · assumption
    · assumption
    · exact hlo.mono (by walk_at "le") (fun l v e m1 m2 m3 => by walk_at "lk")

abbrev nm_Machine_add_piece : List Str := ["self", "handler", "frames"]
theorem sc_Machine_add_piece : FnScope nm_Machine_add_piece ["self", "handler", "frames"] (defScope s_Machine_add_piece) := ⟨rfl, rfl, rfl, by decide +kernel, rfl, by decide +kernel, by decide +kernel⟩
theorem st_Machine_add_piece {a0 a1 a2 : V} : L2.start nm_Machine_add_piece [a0, a1, a2] = [some a0, some a1, some a2] := rfl

def sp_Mac_add (K : PySem.W.Frag) : Sp := fun vs H Q _ => ∃ (x b : Addr) (hd : D) (fs ks : List D) (l : Int) (p : List Int) (vh : V) (vks : List V), vs = [.ref x, vh, .ref b] ∧ MachS K H x ⟨.non, fs, none, l, p⟩ ∧ Rep K H hd vh ∧ (SqL K H b vks.reverse ∨ SqT K H b vks.reverse) ∧ Reps K H ks vks ∧ ∀ H', Le K H H' → MachS K H' x ⟨hd, ks, some fs, l, p⟩ → Q .non H'
theorem ok_Mac_add (T : Txt w K mg) : C8.Met P w K mg base 1 (He.ga K "Machine") "add_piece" (sp_Mac_add K) [] := by
  refine metD (k := 0) T.cMachine T.mMachine_add_piece T.f_Machine_add_piece sc_Machine_add_piece (fun _ _ _ _ _ _ us hl => match us, hl with | [_, _, _], _ => rfl) (fun vs H Q Ex h => ?_) (fun cdv A outer s H vs Q Ex hr h => ⟨_, (pss_cons (ps_expr (pe_bm PySem.F.plainAttrs_list PySem.F.slot_list_append PySem.F.type_list_append mt_append (pe_g T.cMachine T.nMachine_pieces (pv 0)) (pa_cons (pe_tup (pa_cons (pv 1) (pa_cons (pe_callTy call_listOf (by rfl) T.z_list (by decide +kernel) (pa_cons (pv 2) pa_nil)) pa_nil))) pa_nil))) (pss_one (ps_s T.cMachine T.nMachine_most (pv 0) (pe_callB (call_maxI rfl) (by rfl) T.z_max (by decide +kernel) (pa_cons (pe_g T.cMachine T.nMachine_most (pv 0)) (pa_cons (pe_callB call_len2 (by rfl) T.z_len PySem.boot_len (pa_cons (pe_g T.cMachine T.nMachine_pieces (pv 0)) pa_nil)) pa_nil)))))), ?_⟩)
  · obtain ⟨x, b, hd, fs, ks, l, p, vh, vks, rfl, _⟩ := h
    rfl
  · obtain ⟨x, b, hd, fs, ks, l, p, vhh, vks, rfl, ⟨dx, lp, lq, lf, vp, vh, vfs, pre, kk, mm, ⟨ho, hp, hq, ht, hf, rh, rf, n1, n2, n3, hlo⟩⟩, rH, rS, rK, k⟩ := h
    rw [st_Machine_add_piece]
    dsimp only at ho hp hq ht hf rh rf hlo
    obtain rfl : pre = [] := hlo
    obtain rfl : vh = .non := rh
    rcases rS with rS | rS
    · walk_at "w"
      rename_i q1 hq1 q2 hq2
      refine k _ (by walk_at "le") ?_
      apply MachS.mk (dx := dx) (lp := lp) (lq := lq) (lf := q1) (vp := q2) (vh := vhh) (vfs := vks) (pre := [.ref vp])
      all_goals try dsimp only
      · walk_at "lk"
      · walk_at "lk"
      · walk_at "lk"
      · walk_at "lk"
      · walk_at "lk"
      · walk_at "rp"
      · walk_at "rp"
      · walk_at "ne"
      · walk_at "ne"
      · assumption
      · exact ⟨vp, lf, vfs, rfl, by walk_at "lk", by walk_at "lk", by walk_at "rp", by walk_at "ne", by assumption, by assumption⟩
    · walk_at "w"
      rename_i q1 hq1 q2 hq2
      refine k _ (by walk_at "le") ?_
      apply MachS.mk (dx := dx) (lp := lp) (lq := lq) (lf := q1) (vp := q2) (vh := vhh) (vfs := vks) (pre := [.ref vp])
      all_goals try dsimp only
      · walk_at "lk"
      · walk_at "lk"
      · walk_at "lk"
      · walk_at "lk"
      · walk_at "lk"
      · walk_at "rp"
      · walk_at "rp"
      · walk_at "ne"
      · walk_at "ne"
      · assumption
      · exact ⟨vp, lf, vfs, rfl, by walk_at "lk", by walk_at "lk", by walk_at "rp", by walk_at "ne", by assumption, by assumption⟩

abbrev nm_Machine_handled : List Str := ["self", "value", "name", "body", "clauses", "env"]
theorem sc_Machine_handled : FnScope nm_Machine_handled ["self", "value"] (defScope s_Machine_handled) := ⟨rfl, rfl, rfl, by decide +kernel, rfl, by decide +kernel, by decide +kernel⟩
theorem st_Machine_handled {a0 a1 : V} : L2.start nm_Machine_handled [a0, a1] = [some a0, some a1, none, none, none, none] := rfl

def sp_Mac_handled (K : PySem.W.Frag) : Sp := fun vs H Q _ => ∃ (x : Addr) (h : Hd) (env : D) (fs : List D) (l : Int) (p : List Int) (v : D) (uv : V), vs = [.ref x, uv] ∧ MachS K H x ⟨mHd h env, [], some fs, l, p⟩ ∧ Rep K H v uv ∧ ∀ H' u, Le K H H' → MachS K H' x ⟨.non, fs, none, l, p⟩ → Rep K H' (ev h.e.d (bnd1 h.x v env)).d u → Q u H'
theorem ok_Mac_handled (T : Txt w K mg) : C8.Met P w K mg base 1 (He.ga K "Machine") "handled" (sp_Mac_handled K) [] := by
  refine metD (k := 0) T.cMachine T.mMachine_handled T.f_Machine_handled sc_Machine_handled (fun _ _ _ _ _ _ us hl => match us, hl with | [_, _], _ => rfl) (fun vs H Q Ex h => ?_) (fun cdv A outer s H vs Q Ex hr h => ⟨_, (pss_cons (ps_asg (pe_ix ix_2 (pe_bm0 PySem.F.plainAttrs_list PySem.F.slot_list_pop PySem.F.type_list_pop mt_pop (pe_g T.cMachine T.nMachine_pieces (pv 0))) pe_int (fun _ _ => rfl)) (pg_tup rfl (pgs_cons (pg_name (i := 2) sc_Machine_handled.nd rfl (by first | exact Or.inl rfl | exact Or.inr rfl)) (pgs_cons (pg_name (i := 3) sc_Machine_handled.nd rfl (by first | exact Or.inl rfl | exact Or.inr rfl)) (pgs_cons (pg_name (i := 4) sc_Machine_handled.nd rfl (by first | exact Or.inl rfl | exact Or.inr rfl)) (pgs_cons (pg_name (i := 5) sc_Machine_handled.nd rfl (by first | exact Or.inl rfl | exact Or.inr rfl)) pgs_nil)))))) (pss_one (ps_ret (pe_tup (pa_cons (pv 3) (pa_cons (pe_tup (pa_cons (pv 2) (pa_cons (pv 1) (pa_cons (pv 5) pa_nil)))) (pa_cons pe_non pa_nil))))))), ?_⟩)
  · obtain ⟨x, h, env, fs, l, p, v, uv, rfl, _⟩ := h
    rfl
  · obtain ⟨x, h, env, fs, l, p, v, uv, rfl, ⟨dx, lp, lq, lf, vp, vh, vfs, pre, kk, mm, ⟨ho, hp, hq, ht, hf, rh, rf, n1, n2, n3, hlo⟩⟩, rV, k⟩ := h
    rw [st_Machine_handled]
    dsimp only at ho hp hq ht hf rh rf hlo
    obtain ⟨t0, l0, vs0, rfl, ht0, hl0, rf0, m1, m2, m3⟩ := hlo
    obtain ⟨a, _, rfl, ha, _, _, rfl, rfl, _, _, rfl, r1, _, _, rfl, r2, _, _, rfl, r3, rfl⟩ := rh
    walk_at "w"
    refine k _ _ (by walk_at "le") ?_ ?_
    · apply MachS.mk (dx := dx) (lp := lp) (lq := lq) (lf := l0) (vp := t0) (vfs := vs0) (pre := [])
      all_goals try dsimp only
      · walk_at "lk"
      · walk_at "lk"
      · walk_at "lk"
      · walk_at "lk"
      · walk_at "lk"
      · rfl
      · walk_at "rp"
      · assumption
      · assumption
      · assumption
      · rfl
    · walk_at "rp"

end
set_option maxRecDepth 100000
set_option maxHeartbeats 400000
section
variable {P : Program} {w : World} {K : PySem.W.Frag} {mg : Str → Option Value} {base : Heap}

abbrev nm_Machine_answer : List Str := ["self", "place", "clause", "value", "env", "taken", "pieces", "handler", "frames", "inner"]
theorem sc_Machine_answer : FnScope nm_Machine_answer ["self", "place", "clause", "value", "env"] (defScope s_Machine_answer) := ⟨rfl, rfl, rfl, by decide +kernel, rfl, by decide +kernel, by decide +kernel⟩
theorem st_Machine_answer {a0 a1 a2 a3 a4 : V} : L2.start nm_Machine_answer [a0, a1, a2, a3, a4] = [some a0, some a1, some a2, some a3, some a4, none, none, none, none, none] := rfl

def sp_Mac_answer (K : PySem.W.Frag) : Sp := fun vs H Q _ => ∃ (x : Addr) (h : Hd) (env : D) (fs fs0 : List D) (l : Int) (p : List Int) (op : Op) (v : D) (uc uv ue : V), vs = [.ref x, .int 1, uc, uv, ue] ∧
  MachS K H x ⟨mHd h env, fs, some fs0, l, p⟩ ∧ Rep K H (h.clause op) uc ∧ Rep K H v uv ∧ Rep K H env ue ∧
  ∀ H' u, Le K H H' → MachS K H' x ⟨.non, fs0, none, l, p⟩ → Rep K H' (ev (Hd.at h op).2.d (bnd1 .k (mkept h env fs) (bnd1 (Hd.at h op).1 v env))).d u → Q u H'
theorem ok_Mac_answer (T : Txt w K mg) : C8.Met P w K mg base 1 (He.ga K "Machine") "answer" (sp_Mac_answer K) [] := by
  refine metD (k := 0) T.cMachine T.mMachine_answer T.f_Machine_answer sc_Machine_answer (fun _ _ _ _ _ _ us hl => match us, hl with | [_, _, _, _, _], _ => rfl) (fun vs H Q Ex h => ?_) (fun cdv A outer s H vs Q Ex hr h => ⟨_, (pss_cons (ps_set (i := 5) sc_Machine_answer.nd rfl (by first | exact Or.inl rfl | exact Or.inr rfl) (pe_slice sl_2 (pe_g T.cMachine T.nMachine_pieces (pv 0)) (po_some (pv 1)) po_none)) (pss_cons (ps_s T.cMachine T.nMachine_pieces (pv 0) (pe_slice sl_2 (pe_g T.cMachine T.nMachine_pieces (pv 0)) po_none (po_some (pv 1)))) (pss_cons (ps_a T.cMachine T.nMachine_kept in_addI (pv 0) (pe_callB call_len2 (by rfl) T.z_len PySem.boot_len (pa_cons (pv 5) pa_nil))) (pss_cons (ps_set (i := 6) sc_Machine_answer.nd rfl (by first | exact Or.inl rfl | exact Or.inr rfl) (pe_callTy call_tupOf (by rfl) T.z_tuple (by decide +kernel) (pa_cons (pe_lc (own := [("handler", 7), ("frames", 8)]) (tt := tYes) rfl sc_Machine_answer.nd (pi_list (pv 5)) (blkOk_by (own := [("handler", 7), ("frames", 8)]) (N := nm_Machine_answer) (sc := defScope s_Machine_answer) (by decide +kernel)) (fun _ _ _ _ _ => (pg_tupB (K := K) (n := 2) rfl rfl (pgs_cons (pg_name (i := 7) sc_Machine_answer.nd rfl (by first | exact Or.inl rfl | exact Or.inr rfl)) (pgs_cons (pg_name (i := 8) sc_Machine_answer.nd rfl (by first | exact Or.inl rfl | exact Or.inr rfl)) pgs_nil)))) (fun _ _ _ _ _ => pts_nil) (fun _ _ _ _ _ => (pe_tup (pa_cons (pv 7) (pa_cons (pe_callTy (call_tupOfB (K := K) rfl) (by rfl) T.z_tuple (by decide +kernel) (pa_cons (pv 8) pa_nil)) pa_nil))))) pa_nil))) (pss_cons (ps_set (i := 9) sc_Machine_answer.nd rfl (by first | exact Or.inl rfl | exact Or.inr rfl) (pe_tup (pa_cons (pe_ix ix_2 (pv 2) pe_int (fun _ _ => rfl)) (pa_cons (pe_tup (pa_cons pe_str (pa_cons (pv 6) pa_nil))) (pa_cons (pe_tup (pa_cons (pe_ix ix_2 (pv 2) pe_int (fun _ _ => rfl)) (pa_cons (pv 3) (pa_cons (pv 4) pa_nil)))) pa_nil))))) (pss_one (ps_ret (pe_tup (pa_cons (pe_ix ix_2 (pv 2) pe_int (fun _ _ => rfl)) (pa_cons (pv 9) (pa_cons pe_non pa_nil))))))))))), ?_⟩)
  · obtain ⟨x, h, env, fs, fs0, l, p, op, v, uc, uv, ue, rfl, _⟩ := h
    rfl
  · obtain ⟨x, h, env, fs, fs0, l, p, op, v, uc, uv, ue, rfl, ⟨dx, lp, lq, lf, vp, vh, vfs, pre, kk, mm, ⟨ho, hp, hq, ht, hf, rh, rf, n1, n2, n3, hlo⟩⟩, rC, rV, rE, k⟩ := h
    rw [st_Machine_answer]
    dsimp only at ho hp hq ht hf rh rf hlo
    obtain ⟨t0, l0, vs0, rfl, ht0, hl0, rf0, m1, m2, m3⟩ := hlo
    have hq2 : H lq = some (.lst [.ref t0, .ref vp]) := hq
    clear hq
    have rK := rf.reverse
    obtain ⟨a, _, rfl, ha, _, _, rfl, rfl, _, _, rfl, rfl, _, _, rfl, rfl, _, _, rfl, r1, rfl⟩ := rC
    walk_at "w"
    rename_i q1 hq1 q2 hq2'
    generalize hH1 : upd (upd (upd (upd H q1 (HO.lst [V.ref vp])) q2 (HO.lst [V.ref t0])) x (HO.ins (cMac K) dx (putF "pieces" (V.ref q2) (macF l lp lq kk mm)))) x (HO.ins (cMac K) dx (putF "kept" (V.int (kk + ([V.ref vp] : List V).length)) (putF "pieces" (V.ref q2) (macF l lp lq kk mm)))) = H1
    have le1 : Le K H H1 := by
      rw [← hH1]
      walk_at "le"
    have ho1 : H1 x = some (.ins (cMac K) dx (macF l lp q2 (kk + ([V.ref vp] : List V).length) mm)) := by
      rw [← hH1]
      exact upd_same
    have a1 : H1 q1 = some (.lst [.ref vp]) := by
      rw [← hH1]
      walk_at "lk"
    have a2 : H1 q2 = some (.lst [.ref t0]) := by
      rw [← hH1]
      walk_at "lk"
    have a3 : H1 l0 = some (.lst vs0.reverse) := by
      rw [← hH1]
      walk_at "lk"
    have a4 : H1 lf = some (.lst vfs.reverse) := by
      rw [← hH1]
      walk_at "lk"
    have a5 : H1 lp = some (.lst (p.map V.int)) := by
      rw [← hH1]
      walk_at "lk"
    have nq1 : l0 ≠ q2 := by walk_at "ne"
    have nq2 : q2 ≠ lp := by walk_at "ne"
    clear hq1 hq2'
    replace ha := le1 _ _ ha
    replace ht := le1 _ _ ht
    replace ht0 := le1 _ _ ht0
    replace rK := rK.mono le1
    replace r1 := r1.mono le1
    replace rV := rV.mono le1
    replace rE := rE.mono le1
    replace rh := rh.mono le1
    replace rf0 := rf0.mono le1
    clear rf ho hp hf hl0 hq2 hH1
    refine ⟨q1, rfl, ⟨_, (show SqL K _ q1 [V.ref vp] by walk_at "lk")⟩, fun Dl hD => lc_one (x := .ref vp) (by walk_at "lk") ?_⟩
    walk_at "w"
    refine ⟨rfl, ?_⟩
    walk_at "w"
    rename_i q3 hq3 q4 hq4
    refine ⟨[], by walk_at "lk", by decide, by walk_at "lk", ?_⟩
    walk_at "w"
    rename_i q5 hq5 q6 hq6 q7 hq7 q8 hq8 q9 hq9
    refine k _ _ (by walk_at "le") ?_ ?_
    · apply MachS.mk (dx := dx) (lp := lp) (lq := q2) (lf := l0) (vp := t0) (vfs := vs0) (pre := [])
      all_goals try dsimp only
      · walk_at "lk"
      · walk_at "lk"
      · walk_at "lk"
      · walk_at "lk"
      · walk_at "lk"
      · rfl
      · walk_at "rp"
      · assumption
      · assumption
      · assumption
      · rfl
    · walk_at "rp"

end
set_option maxRecDepth 100000
set_option maxHeartbeats 400000
section
variable {P : Program} {w : World} {K : PySem.W.Frag} {mg : Str → Option Value} {base : Heap}

theorem MachS.dec {K : PySem.W.Frag} {H : Hp} {x : Addr} {hd : D} {fs : List D} {lo : Option (List D)} {l : Int} {p : List Int} {dx lp lq lf vp : Addr} {vh : V} {vfs pre : List V} {k m : Int} (h : MachAt K H x ⟨hd, fs, lo, l, p⟩ dx lp lq lf vp vh vfs pre k m) :
    MachS K (upd H x (.ins (cMac K) dx (putF "left" (.int (l - 1)) (macF l lp lq k m)))) x ⟨hd, fs, lo, l - 1, p⟩ := by
  obtain ⟨ho, hp, hq, ht, hf, rh, rf, n1, n2, n3, hlo⟩ := h
  have le1 : Le K H (upd H x (.ins (cMac K) dx (putF "left" (.int (l - 1)) (macF l lp lq k m)))) := Le.ins Le.refl ho
  have ne : ∀ b v, H b = some (.lst v) → upd H x (.ins (cMac K) dx (putF "left" (.int (l - 1)) (macF l lp lq k m))) b = some (.lst v) := fun b v e => get_kind e ho rfl
  exact ⟨dx, lp, lq, lf, vp, vh, vfs, pre, k, m, upd_same, ne _ _ hp, ne _ _ hq, le1 _ _ ht, ne _ _ hf, rh.mono le1, rf.mono le1, n1, n2, n3, hlo.mono le1 fun l v e _ _ _ => ne _ _ e⟩
abbrev nm_Machine_call : List Str := ["self", "function", "argument", "handler", "frames", "env"]
theorem sc_Machine_call : FnScope nm_Machine_call ["self", "function", "argument"] (defScope s_Machine_call) := ⟨rfl, rfl, rfl, by decide +kernel, rfl, by decide +kernel, by decide +kernel⟩
theorem st_Machine_call {a0 a1 a2 : V} : L2.start nm_Machine_call [a0, a1, a2] = [some a0, some a1, some a2, none, none, none] := rfl

def sp_Mac_call (K : PySem.W.Frag) : Sp := fun vs H Q _ => ∃ (x : Addr) (s t : MO) (f v : D) (r : L3) (uf uv : V), vs = [.ref x, uf, uv] ∧ MachS K H x s ∧ Rep K H f uf ∧ Rep K H v uv ∧ MCall f v s r t ∧ ∀ H' u, Le K H H' → MachS K H' x t → Rep K H' r.d u → Q u H'
theorem ok_Mac_call (T : Txt w K mg) (m_Machine_step : C8.Met P w K mg base 1 (He.ga K "Machine") "step" (sp_step (cMac K)) []) (m_Machine_add_piece : C8.Met P w K mg base 1 (He.ga K "Machine") "add_piece" (sp_Mac_add K) []) : C8.Met P w K mg base 2 (He.ga K "Machine") "call" (sp_Mac_call K) [] := by
  refine metD (k := 1) T.cMachine T.mMachine_call T.f_Machine_call sc_Machine_call (fun _ _ _ _ _ _ us hl => match us, hl with | [_, _, _], _ => rfl) (fun vs H Q Ex h => ?_) (fun cdv A outer s H vs Q Ex hr h => ⟨_, (pss_cons (ps_expr (C8.pe_mt0 m_Machine_step hr (by omega) (pv 0))) (pss_cons (ps_if (pt_cmpR op_eq (pe_ix ix_2 (pv 1) pe_int (fun _ _ => rfl)) pe_str (by rfl)) (pss_cons (ps_for PassesOwn.never rfl (pi_tup (pe_ix ix_2 (pv 1) pe_int (fun _ _ => rfl))) (pg_tup rfl (pgs_cons (pg_name (i := 3) sc_Machine_call.nd rfl (by first | exact Or.inl rfl | exact Or.inr rfl)) (pgs_cons (pg_name (i := 4) sc_Machine_call.nd rfl (by first | exact Or.inl rfl | exact Or.inr rfl)) pgs_nil))) (pss_one (ps_expr (C8.pe_mt m_Machine_add_piece hr (by omega) (pv 0) (pa_cons (pv 3) (pa_cons (pv 4) pa_nil)))))) (pss_one (ps_ret (pe_tup (pa_cons pe_non (pa_cons pe_non (pa_cons (pv 2) pa_nil))))))) pss_nil) (pss_cons (ps_set (i := 5) sc_Machine_call.nd rfl (by first | exact Or.inl rfl | exact Or.inr rfl) (pe_ix ix_2 (pv 1) pe_int (fun _ _ => rfl))) (pss_cons (ps_if (pt_cmpR op_notNn (pe_ix ix_2 (pv 1) pe_int (fun _ _ => rfl)) pe_non (by rfl)) (pss_one (ps_set (i := 5) sc_Machine_call.nd rfl (by first | exact Or.inl rfl | exact Or.inr rfl) (pe_tup (pa_cons (pe_ix ix_2 (pv 1) pe_int (fun _ _ => rfl)) (pa_cons (pv 1) (pa_cons (pv 5) pa_nil)))))) pss_nil) (pss_one (ps_ret (pe_tup (pa_cons (pe_ix ix_2 (pv 1) pe_int (fun _ _ => rfl)) (pa_cons (pe_tup (pa_cons (pe_ix ix_2 (pv 1) pe_int (fun _ _ => rfl)) (pa_cons (pv 2) (pa_cons (pv 5) pa_nil)))) (pa_cons pe_non pa_nil)))))))))), ?_⟩)
  · obtain ⟨x, s, t, f, v, r, uf, uv, rfl, _⟩ := h
    rfl
  · obtain ⟨x, s, t, f, v, r, uf, uv, rfl, ⟨dx, lp, lq, lf, vp, vh, vfs, pre, kk, mm, ma⟩, rF, rV, hb, k⟩ := h
    rw [st_Machine_call]
    cases hb with
    | @fn y e env a hd fs lo l p hl =>
      have ms1 := MachS.dec ma
      have ho := ma.obj
      dsimp only at ho
      clear ma
      obtain ⟨a, _, rfl, ha, _, _, rfl, rfl, _, _, rfl, rfl, _, _, rfl, rfl, _, _, rfl, r1, _, _, rfl, r2, rfl⟩ := rF
      walk_at "w"
      refine ⟨x, dx, _, _, rfl, ho, rfl, hl, rfl, ?_⟩
      generalize hH1 : upd H x (HO.ins (cMac K) dx (putF "left" (V.int (l - 1)) (macF l lp lq kk mm))) = H1 at ms1 ⊢
      have le1 : Le K H H1 := by
        rw [← hH1]
        walk_at "le"
      have ho1 : H1 x = some (.ins (cMac K) dx (macF (l - 1) lp lq kk mm)) := by
        rw [← hH1]
        exact upd_same
      clear hH1 ho
      walk_at "w"
      refine k _ _ (by walk_at "le") (ms1.same (by walk_at "sm")) (by walk_at "rp")
    | @rc h y e env a hd fs lo l p hl =>
      have ms1 := MachS.dec ma
      have ho := ma.obj
      dsimp only at ho
      clear ma
      have rF0 := rF
      obtain ⟨a, _, rfl, ha, _, _, rfl, rfl, _, _, rfl, rfl, _, _, rfl, rfl, _, _, rfl, r1, _, _, rfl, r2, rfl⟩ := rF
      walk_at "w"
      refine ⟨x, dx, _, _, rfl, ho, rfl, hl, rfl, ?_⟩
      generalize hH1 : upd H x (HO.ins (cMac K) dx (putF "left" (V.int (l - 1)) (macF l lp lq kk mm))) = H1 at ms1 ⊢
      have le1 : Le K H H1 := by
        rw [← hH1]
        walk_at "le"
      have ho1 : H1 x = some (.ins (cMac K) dx (macF (l - 1) lp lq kk mm)) := by
        rw [← hH1]
        exact upd_same
      clear hH1 ho
      walk_at "w"
      refine k _ _ (by walk_at "le") (ms1.same (by walk_at "sm")) (by walk_at "rp")
    | @kp h env ks a fs l p hl =>
      have ms1 := MachS.dec ma
      have ho := ma.obj
      dsimp only at ho
      clear ma
      obtain ⟨a, _, rfl, ha, _, _, rfl, rfl, _, _, rfl, ⟨b, _, rfl, hb, _, _, rfl, ⟨b2, _, rfl, hb2, _, _, rfl, r1, _, _, rfl, ⟨c, zs, rfl, hc, rz⟩, rfl⟩, rfl⟩, rfl⟩ := rF
      obtain ⟨us, rfl, ru⟩ := rz.rev
      walk_at "w"
      refine ⟨x, dx, _, _, rfl, ho, rfl, hl, rfl, ?_⟩
      generalize hH1 : upd H x (HO.ins (cMac K) dx (putF "left" (V.int (l - 1)) (macF l lp lq kk mm))) = H1 at ms1 ⊢
      have le1 : Le K H H1 := by
        rw [← hH1]
        walk_at "le"
      have ho1 : H1 x = some (.ins (cMac K) dx (macF (l - 1) lp lq kk mm)) := by
        rw [← hH1]
        exact upd_same
      clear hH1 ho
      walk_at "w"
      refine ⟨b, rfl, ⟨_, le1 _ _ hb⟩, for_one (x := .ref b2) (le1 _ _ hb) ?_⟩
      walk_at "w"
      refine ⟨x, c, mHd h env, fs, ks, l - 1, p, _, us, rfl, ms1, r1.mono le1, .inr (le1 _ _ hc), ru.mono le1, fun H2 le2 ms2 => ?_⟩
      walk_at "w"
      refine ⟨le2 _ _ (le1 _ _ hb), ?_⟩
      walk_at "w"
      exact k _ _ (by walk_at "le") (ms2.same (by walk_at "sm")) (by walk_at "rp")

abbrev nm_Machine_ask : List Str := ["self", "name", "value", "place", "last", "body", "clauses", "env", "clause"]
theorem sc_Machine_ask : FnScope nm_Machine_ask ["self", "name", "value"] (defScope s_Machine_ask) := ⟨rfl, rfl, rfl, by decide +kernel, rfl, by decide +kernel, by decide +kernel⟩
theorem st_Machine_ask {a0 a1 a2 : V} : L2.start nm_Machine_ask [a0, a1, a2] = [some a0, some a1, some a2, none, none, none, none, none, none] := rfl

def sp_Mac_ask (K : PySem.W.Frag) : Sp := fun vs H Q _ => ∃ (x : Addr) (h : Hd) (env : D) (fs fs0 : List D) (l : Int) (p : List Int) (op : Op) (v : D) (uv : V), vs = [.ref x, .str op.str, uv] ∧
  MachS K H x ⟨mHd h env, fs, some fs0, l, p⟩ ∧ Rep K H v uv ∧ 0 < l ∧
  ∀ H' u, Le K H H' → MachS K H' x ⟨.non, fs0, none, l - 1, p⟩ → Rep K H' (ev (Hd.at h op).2.d (bnd1 .k (mkept h env fs) (bnd1 (Hd.at h op).1 v env))).d u → Q u H'
theorem ok_Mac_ask (T : Txt w K mg) (m_Machine_step : C8.Met P w K mg base 1 (He.ga K "Machine") "step" (sp_step (cMac K)) []) (m_Machine_answer : C8.Met P w K mg base 1 (He.ga K "Machine") "answer" (sp_Mac_answer K) []) : C8.Met P w K mg base 2 (He.ga K "Machine") "ask" (sp_Mac_ask K) [] := by
  refine metD (k := 1) T.cMachine T.mMachine_ask T.f_Machine_ask sc_Machine_ask (fun _ _ _ _ _ _ us hl => match us, hl with | [_, _, _], _ => rfl) (fun vs H Q Ex h => ?_) (fun cdv A outer s H vs Q Ex hr h => ⟨_, (pss_cons (ps_expr (C8.pe_mt0 m_Machine_step hr (by omega) (pv 0))) (pss_cons (ps_for PassesOwn.never rfl (pi_revR (by rfl) T.z_reversed (prg_2 (by rfl) T.z_range pe_int (pe_callB call_len2 (by rfl) T.z_len PySem.boot_len (pa_cons (pe_g T.cMachine T.nMachine_pieces (pv 0)) pa_nil)))) (pg_name (i := 3) sc_Machine_ask.nd rfl (by first | exact Or.inl rfl | exact Or.inr rfl)) (pss_cons (ps_asg (pe_ix ix_2 (pe_ix ix_2 (pe_g T.cMachine T.nMachine_pieces (pv 0)) (pv 3) (fun _ _ => rfl)) pe_int (fun _ _ => rfl)) (pg_tup rfl (pgs_cons (pg_name (i := 4) sc_Machine_ask.nd rfl (by first | exact Or.inl rfl | exact Or.inr rfl)) (pgs_cons (pg_name (i := 5) sc_Machine_ask.nd rfl (by first | exact Or.inl rfl | exact Or.inr rfl)) (pgs_cons (pg_name (i := 6) sc_Machine_ask.nd rfl (by first | exact Or.inl rfl | exact Or.inr rfl)) (pgs_cons (pg_name (i := 7) sc_Machine_ask.nd rfl (by first | exact Or.inl rfl | exact Or.inr rfl)) pgs_nil)))))) (pss_one (ps_for PassesOwn.never rfl (pi_tup (pv 6)) (pg_name (i := 8) sc_Machine_ask.nd rfl (by first | exact Or.inl rfl | exact Or.inr rfl)) (pss_one (ps_if (pt_cmpR op_eq (pe_ix ix_2 (pv 8) pe_int (fun _ _ => rfl)) (pv 1) (by rfl)) (pss_one (ps_ret (C8.pe_mt m_Machine_answer hr (by omega) (pv 0) (pa_cons (pv 3) (pa_cons (pv 8) (pa_cons (pv 2) (pa_cons (pv 7) pa_nil))))))) pss_nil)))))) pss_never)), ?_⟩)
  · obtain ⟨x, h, env, fs, fs0, l, p, op, v, uv, rfl, _⟩ := h
    rfl
  · obtain ⟨x, h, env, fs, fs0, l, p, op, v, uv, rfl, ⟨dx, lp, lq, lf, vp, vh, vfs, pre, kk, mm, ma⟩, rV, hl, k⟩ := h
    rw [st_Machine_ask]
    have ms1 := MachS.dec ma
    obtain ⟨ho, hp, hq, ht, hf, rh, rf, n1, n2, n3, hlo⟩ := ma
    dsimp only at ho hp hq ht hf rh rf hlo
    obtain ⟨t0, l0, vs0, rfl, ht0, hl0, rf0, m1, m2, m3⟩ := hlo
    have hq2 : H lq = some (.lst [.ref t0, .ref vp]) := hq
    walk_at "w"
    refine ⟨x, dx, _, _, rfl, ho, rfl, hl, rfl, ?_⟩
    generalize hH1 : upd H x (HO.ins (cMac K) dx (putF "left" (V.int (l - 1)) (macF l lp lq kk mm))) = H1 at ms1 ⊢
    have le1 : Le K H H1 := by
      rw [← hH1]
      walk_at "le"
    have ho1 : H1 x = some (.ins (cMac K) dx (macF (l - 1) lp lq kk mm)) := by
      rw [← hH1]
      exact upd_same
    
    have hq1 : H1 lq = some (.lst [.ref t0, .ref vp]) := by
      rw [← hH1]
      walk_at "lk"
    clear hH1 ho hp hq hf hl0 hq2
    obtain ⟨a, _, rfl, ha, _, _, rfl, rfl, vb0, _, rfl, r1, _, _, rfl, ⟨b, _, rfl, hb, c1, _, rfl, rc1, c2, _, rfl, rc2, rfl⟩, ve0, _, rfl, r3, rfl⟩ := rh
    walk_at "w"
    refine ⟨by decide, by decide, by simp, by simp, for_rangeC (fun i σ H' => i = 0 ∧ H1 = H' ∧ ∃ v3 v4 v5 v6 v7 v8, σ = [some (.ref x), some (.str op.str), some uv, v3, v4, v5, v6, v7, v8]) ⟨rfl, rfl, _, _, _, _, _, _, rfl⟩ ?_ ?_⟩
    · rintro i σ H' hi ⟨rfl, rfl, v3, v4, v5, v6, v7, v8, rfl⟩
      walk_at "w"
      refine ⟨b, rfl, ⟨_, le1 _ _ hb⟩, for_tup (xs := [c1, c2]) (fun j σ H' => H1 = H' ∧ (op = .get → j = 0) ∧ j ≤ 1 ∧ ∃ v8, σ = [some (.ref x), some (.str op.str), some uv, some (.int 1), some (.str h.x.str), some vb0, some (.ref b), some ve0, v8]) ⟨rfl, fun _ => rfl, by omega, _, rfl⟩ (fun i σ H' _ p => by rw [← p.1]; exact le1 _ _ hb) ?_ ?_⟩
      · rintro j y σ H' hy ⟨rfl, hj1, hj2, v5, rfl⟩
        rcases j with _ | _ | j
        · cases hy
          have rc1' := rc1
          obtain ⟨a1, _, rfl, ha1, _, _, rfl, rfl, _⟩ := rc1'
          cases op with
          | get =>
            walk_at "w"
            refine ⟨x, h, env, fs, fs0, l - 1, p, .get, v, _, uv, _, rfl, ms1, rc1.mono le1, rV.mono le1, r3.mono le1, fun H2 u le2 ms2 r2 => ?_⟩
            walk_at "w"
            exact k _ _ (le1.trans le2) ms2 r2
          | put =>
            walk_at "w"
            exact ⟨rfl, (fun e => by cases e), by omega, _, rfl⟩
        · cases hy
          have rc2' := rc2
          obtain ⟨a1, _, rfl, ha1, _, _, rfl, rfl, _⟩ := rc2'
          cases op with
          | get => exact absurd (hj1 rfl) (by omega)
          | put =>
            walk_at "w"
            refine ⟨x, h, env, fs, fs0, l - 1, p, .put, v, _, uv, _, rfl, ms1, rc2.mono le1, rV.mono le1, r3.mono le1, fun H2 u le2 ms2 r2 => ?_⟩
            walk_at "w"
            exact k _ _ (le1.trans le2) ms2 r2
        · omega
      · rintro σ H' ⟨_, _, h2, _⟩
        exact absurd (show 2 ≤ 1 from h2) (by decide)
    · rintro σ H' ⟨h2, _⟩
      exact absurd h2 (by simp)

end
set_option maxRecDepth 100000
set_option maxHeartbeats 400000
section
variable {P : Program} {w : World} {K : PySem.W.Frag} {mg : Str → Option Value} {base : Heap}

abbrev nm_Machine_begin : List Str := ["self", "current", "env", "head"]
theorem sc_Machine_begin : FnScope nm_Machine_begin ["self", "current", "env"] (defScope s_Machine_begin) := ⟨rfl, rfl, rfl, by decide +kernel, rfl, by decide +kernel, by decide +kernel⟩
theorem st_Machine_begin {a0 a1 a2 : V} : L2.start nm_Machine_begin [a0, a1, a2] = [some a0, some a1, some a2, none] := rfl

def sp_Mac_begin (K : PySem.W.Frag) : Sp := fun vs H Q _ => ∃ (x : Addr) (c env : D) (s t : MO) (r : L3) (uc ue : V), vs = [.ref x, uc, ue] ∧ MachS K H x s ∧ Rep K H c uc ∧ Rep K H env ue ∧ MBeg c env s r t ∧ ∀ H' u, Le K H H' → MachS K H' x t → Rep K H' r.d u → Q u H'
theorem ok_Mac_begin (T : Txt w K mg) (v_Machine_wait : MetV P w K mg base 1 (He.ga K "Machine") "wait" (starSp (sp_wait K))) (m_Machine_add_piece : C8.Met P w K mg base 1 (He.ga K "Machine") "add_piece" (sp_Mac_add K) []) (c_looked_up : C8.Cal P w K mg base 1 "looked_up" (sp_looked_up K) []) : C8.Met P w K mg base 2 (He.ga K "Machine") "begin" (sp_Mac_begin K) [] := by
  refine metD (k := 1) T.cMachine T.mMachine_begin T.f_Machine_begin sc_Machine_begin (fun _ _ _ _ _ _ us hl => match us, hl with | [_, _, _], _ => rfl) (fun vs H Q Ex h => ?_) (fun cdv A outer s H vs Q Ex hr h => ⟨_, (pss_cons (ps_set (i := 3) sc_Machine_begin.nd rfl (by first | exact Or.inl rfl | exact Or.inr rfl) (pe_ix ix_2 (pv 1) pe_int (fun _ _ => rfl))) (pss_cons (ps_if (pt_cmpR op_eq (pv 3) pe_str (by rfl)) (pss_one (ps_ret (pe_tup (pa_cons pe_non (pa_cons pe_non (pa_cons (pe_tup (pa_cons pe_str (pa_cons (pe_ix ix_2 (pv 1) pe_int (fun _ _ => rfl)) pa_nil))) pa_nil)))))) pss_nil) (pss_cons (ps_if (pt_cmpR op_eq (pv 3) pe_str (by rfl)) (pss_one (ps_ret (pe_tup (pa_cons pe_non (pa_cons pe_non (pa_cons (pe_tup (pa_cons pe_str (pa_cons (pe_ix ix_2 (pv 1) pe_int (fun _ _ => rfl)) pa_nil))) pa_nil)))))) pss_nil) (pss_cons (ps_if (pt_cmpR op_eq (pv 3) pe_str (by rfl)) (pss_one (ps_ret (pe_tup (pa_cons pe_non (pa_cons pe_non (pa_cons (pe_glob (v := V.ref (He.ga K "UNIT_machine")) (by rfl) T.g_UNIT_machine rfl) pa_nil)))))) pss_nil) (pss_cons (ps_if (pt_cmpR op_eq (pv 3) pe_str (by rfl)) (pss_one (ps_ret (pe_tup (pa_cons pe_non (pa_cons pe_non (pa_cons (C8.pe_c c_looked_up hr (by omega) (by rfl) (pa_cons (pv 2) (pa_cons (pe_ix ix_2 (pv 1) pe_int (fun _ _ => rfl)) pa_nil))) pa_nil)))))) pss_nil) (pss_cons (ps_if (pt_cmpR op_eq (pv 3) pe_str (by rfl)) (pss_one (ps_ret (pe_tup (pa_cons pe_non (pa_cons pe_non (pa_cons (pe_tup (pa_cons pe_str (pa_cons pe_non (pa_cons (pe_ix ix_2 (pv 1) pe_int (fun _ _ => rfl)) (pa_cons (pe_ix ix_2 (pv 1) pe_int (fun _ _ => rfl)) (pa_cons (pv 2) pa_nil)))))) pa_nil)))))) pss_nil) (pss_cons (ps_if (pt_cmpR op_eq (pv 3) pe_str (by rfl)) (pss_one (ps_ret (pe_tup (pa_cons pe_non (pa_cons pe_non (pa_cons (pe_tup (pa_cons pe_str (pa_cons (pe_ix ix_2 (pv 1) pe_int (fun _ _ => rfl)) (pa_cons (pe_ix ix_2 (pv 1) pe_int (fun _ _ => rfl)) (pa_cons (pe_ix ix_2 (pv 1) pe_int (fun _ _ => rfl)) (pa_cons (pv 2) pa_nil)))))) pa_nil)))))) pss_nil) (pss_cons (ps_if (pt_cmpR op_eq (pv 3) pe_str (by rfl)) (pss_cons (ps_expr (C8.pe_mt m_Machine_add_piece hr (by omega) (pv 0) (pa_cons (pe_tup (pa_cons (pe_ix ix_2 (pe_ix ix_2 (pv 1) pe_int (fun _ _ => rfl)) pe_int (fun _ _ => rfl)) (pa_cons (pe_ix ix_2 (pe_ix ix_2 (pv 1) pe_int (fun _ _ => rfl)) pe_int (fun _ _ => rfl)) (pa_cons (pe_ix ix_2 (pv 1) pe_int (fun _ _ => rfl)) (pa_cons (pv 2) pa_nil))))) (pa_cons (pe_lst pa_nil) pa_nil)))) (pss_one (ps_ret (pe_tup (pa_cons (pe_ix ix_2 (pv 1) pe_int (fun _ _ => rfl)) (pa_cons (pv 2) (pa_cons pe_non pa_nil))))))) pss_nil) (pss_cons (ps_expr (pe_mv v_Machine_wait hr (by omega) (pv 0) (pa_cons (pv 3) (pa_cons (pv 1) (pa_cons (pv 2) pa_nil))))) (pss_cons (ps_if (pt_cmpR op_in_seq (pv 3) (pe_tup (pa_cons pe_str (pa_cons pe_str (pa_cons pe_str pa_nil)))) (by rfl)) (pss_one (ps_ret (pe_tup (pa_cons (pe_ix ix_2 (pv 1) pe_int (fun _ _ => rfl)) (pa_cons (pv 2) (pa_cons pe_non pa_nil)))))) pss_nil) (pss_one (ps_ret (pe_tup (pa_cons (pe_ix ix_2 (pv 1) pe_int (fun _ _ => rfl)) (pa_cons (pv 2) (pa_cons pe_non pa_nil)))))))))))))))), ?_⟩)
  · obtain ⟨x, c, env, s, t, r, uc, ue, rfl, _⟩ := h
    rfl
  · obtain ⟨x, c, env, s, t, r, uc, ue, rfl, ms, rC, rE, hb, k⟩ := h
    rw [st_Machine_begin]
    have ms0 := ms
    obtain ⟨dx, lp, lq, lf, vp, vh, vfs, pre, kk, mm, ⟨ho, _⟩⟩ := ms0
    have rC0 := rC
    cases hb with
    | @num i env s =>
      obtain ⟨a, _, rfl, ha, _, _, rfl, rfl, _, _, rfl, rfl, rfl⟩ := rC
      walk_at "w"
      exact k _ _ (by walk_at "le") (ms.same (by walk_at "sm")) (by walk_at "rp")
    | @unit env s =>
      obtain ⟨a, _, rfl, ha, _, _, rfl, rfl, rfl⟩ := rC
      walk_at "w"
      exact k _ _ (by walk_at "le") (ms.same (by walk_at "sm")) (Rep.mk (sqt_of upd_same) (Reps.cons rfl (Reps.cons rfl (Reps.cons (Rep.mk (T.t_UNIT_machine _) (Reps.cons rfl rfl)) rfl))))
    | @name n y env v s lk =>
      obtain ⟨a, _, rfl, ha, _, _, rfl, rfl, _, _, rfl, rfl, rfl⟩ := rC
      walk_at "w"
      refine ⟨n, y, env, v, _, rfl, rE, lk, fun u ru => ?_⟩
      walk_at "w"
      exact k _ _ (by walk_at "le") (ms.same (by walk_at "sm")) (by walk_at "rp")
    | @fn y e env s =>
      obtain ⟨a, _, rfl, ha, _, _, rfl, rfl, _, _, rfl, rfl, _, _, rfl, r1, rfl⟩ := rC
      walk_at "w"
      exact k _ _ (by walk_at "le") (ms.same (by walk_at "sm")) (by walk_at "rp")
    | @rc h y e env s =>
      obtain ⟨a, _, rfl, ha, _, _, rfl, rfl, _, _, rfl, rfl, _, _, rfl, rfl, _, _, rfl, r1, rfl⟩ := rC
      walk_at "w"
      exact k _ _ (by walk_at "le") (ms.same (by walk_at "sm")) (by walk_at "rp")
    | @handle e h env fs l p =>
      obtain ⟨a, _, rfl, ha, _, _, rfl, rfl, _, _, rfl, r1, _, _, rfl, ⟨b, _, rfl, hb, _, _, rfl, rfl, _, _, rfl, r2, rfl⟩, _, _, rfl, r3, rfl⟩ := rC
      walk_at "w"
      rename_i q1 hq1 q2 hq2
      refine ⟨x, q2, mHd h env, fs, [], l, p, _, [], rfl, ms.same (by walk_at "sm"), by walk_at "rp", .inl (by walk_at "lk"), rfl, fun H2 le2 ms2 => ?_⟩
      have le3 : Le K H H2 := Le.trans (by walk_at "le") le2
      walk_at "w"
      exact k _ _ (by walk_at "le") (ms2.same (by walk_at "sm")) (by walk_at "rp")
    | @lt y e f env hd fs lo l p hl =>
      obtain ⟨a, _, rfl, ha, _, _, rfl, rfl, _, _, rfl, rfl, _, _, rfl, r1, _, _, rfl, r2, rfl⟩ := rC
      walk_at "w"
      refine ⟨_, _, rfl, ble_le rfl, fun q hq => ?_⟩
      refine ⟨x, q, hd, fs, lo, l, p, mF "let" (.tup [.str "let", .str (Nm.str y), e, f]) env, rfl, ms.same (by walk_at "sm"), by walk_at "rp", hl, fun H2 le2 ms2 => ?_⟩
      have le3 : Le K H H2 := Le.trans (by walk_at "le") le2
      walk_at "w"
      exact k _ _ (by walk_at "le") (ms2.same (by walk_at "sm")) (by walk_at "rp")
    | @op o e f env hd fs lo l p hl =>
      obtain ⟨a, _, rfl, ha, _, _, rfl, rfl, _, _, rfl, rfl, _, _, rfl, r1, _, _, rfl, r2, rfl⟩ := rC
      walk_at "w"
      refine ⟨_, _, rfl, ble_le rfl, fun q hq => ?_⟩
      refine ⟨x, q, hd, fs, lo, l, p, mF "op" (.tup [.str "op", .str (Sg.str o), e, f]) env, rfl, ms.same (by walk_at "sm"), by walk_at "rp", hl, fun H2 le2 ms2 => ?_⟩
      have le3 : Le K H H2 := Le.trans (by walk_at "le") le2
      walk_at "w"
      exact k _ _ (by walk_at "le") (ms2.same (by walk_at "sm")) (by walk_at "rp")
    | @ask o e env hd fs lo l p hl =>
      obtain ⟨a, _, rfl, ha, _, _, rfl, rfl, _, _, rfl, rfl, _, _, rfl, r1, rfl⟩ := rC
      walk_at "w"
      refine ⟨_, _, rfl, ble_le rfl, fun q hq => ?_⟩
      refine ⟨x, q, hd, fs, lo, l, p, mF "ask" (.tup [.str "ask", .str (Op.str o), e]) env, rfl, ms.same (by walk_at "sm"), by walk_at "rp", hl, fun H2 le2 ms2 => ?_⟩
      have le3 : Le K H H2 := Le.trans (by walk_at "le") le2
      walk_at "w"
      exact k _ _ (by walk_at "le") (ms2.same (by walk_at "sm")) (by walk_at "rp")
    | @call e f env hd fs lo l p hl =>
      obtain ⟨a, _, rfl, ha, _, _, rfl, rfl, _, _, rfl, r1, _, _, rfl, r2, rfl⟩ := rC
      walk_at "w"
      refine ⟨_, _, rfl, ble_le rfl, fun q hq => ?_⟩
      refine ⟨x, q, hd, fs, lo, l, p, mF "call" (.tup [.str "call", e, f]) env, rfl, ms.same (by walk_at "sm"), by walk_at "rp", hl, fun H2 le2 ms2 => ?_⟩
      have le3 : Le K H H2 := Le.trans (by walk_at "le") le2
      walk_at "w"
      exact k _ _ (by walk_at "le") (ms2.same (by walk_at "sm")) (by walk_at "rp")
    | @ite e f g env hd fs lo l p hl =>
      obtain ⟨a, _, rfl, ha, _, _, rfl, rfl, _, _, rfl, r1, _, _, rfl, r2, _, _, rfl, r3, rfl⟩ := rC
      walk_at "w"
      refine ⟨_, _, rfl, ble_le rfl, fun q hq => ?_⟩
      refine ⟨x, q, hd, fs, lo, l, p, mF "if" (.tup [.str "if", e, f, g]) env, rfl, ms.same (by walk_at "sm"), by walk_at "rp", hl, fun H2 le2 ms2 => ?_⟩
      have le3 : Le K H H2 := Le.trans (by walk_at "le") le2
      walk_at "w"
      exact k _ _ (by walk_at "le") (ms2.same (by walk_at "sm")) (by walk_at "rp")
    | @print e f env hd fs lo l p hl =>
      obtain ⟨a, _, rfl, ha, _, _, rfl, rfl, _, _, rfl, r1, _, _, rfl, r2, rfl⟩ := rC
      walk_at "w"
      refine ⟨_, _, rfl, ble_le rfl, fun q hq => ?_⟩
      refine ⟨x, q, hd, fs, lo, l, p, mF "print" (.tup [.str "print", e, f]) env, rfl, ms.same (by walk_at "sm"), by walk_at "rp", hl, fun H2 le2 ms2 => ?_⟩
      have le3 : Le K H H2 := Le.trans (by walk_at "le") le2
      walk_at "w"
      exact k _ _ (by walk_at "le") (ms2.same (by walk_at "sm")) (by walk_at "rp")
    | @pair e f env hd fs lo l p hl =>
      obtain ⟨a, _, rfl, ha, _, _, rfl, rfl, _, _, rfl, r1, _, _, rfl, r2, rfl⟩ := rC
      walk_at "w"
      refine ⟨_, _, rfl, ble_le rfl, fun q hq => ?_⟩
      refine ⟨x, q, hd, fs, lo, l, p, mF "pair" (.tup [.str "pair", e, f]) env, rfl, ms.same (by walk_at "sm"), by walk_at "rp", hl, fun H2 le2 ms2 => ?_⟩
      have le3 : Le K H H2 := Le.trans (by walk_at "le") le2
      walk_at "w"
      exact k _ _ (by walk_at "le") (ms2.same (by walk_at "sm")) (by walk_at "rp")

end
set_option maxRecDepth 100000
set_option maxHeartbeats 400000
section
variable {P : Program} {w : World} {K : PySem.W.Frag} {mg : Str → Option Value} {base : Heap}

abbrev nm_Machine_resume : List Str := ["self", "frame", "value", "head"]
theorem sc_Machine_resume : FnScope nm_Machine_resume ["self", "frame", "value"] (defScope s_Machine_resume) := ⟨rfl, rfl, rfl, by decide +kernel, rfl, by decide +kernel, by decide +kernel⟩
theorem st_Machine_resume {a0 a1 a2 : V} : L2.start nm_Machine_resume [a0, a1, a2] = [some a0, some a1, some a2, none] := rfl

def sp_Mac_resume (K : PySem.W.Frag) : Sp := fun vs H Q _ => ∃ (x : Addr) (f v : D) (s t : MO) (r : L3) (uf uv : V), vs = [.ref x, uf, uv] ∧ MachS K H x s ∧ Rep K H f uf ∧ Rep K H v uv ∧ MRes f v s r t ∧ ∀ H' u, Le K H H' → MachS K H' x t → Rep K H' r.d u → Q u H'
theorem ok_Mac_resume (T : Txt w K mg) (v_Machine_wait : MetV P w K mg base 1 (He.ga K "Machine") "wait" (starSp (sp_wait K))) (c_calculated : C8.Cal P w K mg base 1 "calculated" (sp_calculated K) []) (m_Machine_call : C8.Met P w K mg base 2 (He.ga K "Machine") "call" (sp_Mac_call K) []) (m_Machine_ask : C8.Met P w K mg base 2 (He.ga K "Machine") "ask" (sp_Mac_ask K) []) : C8.Met P w K mg base 3 (He.ga K "Machine") "resume" (sp_Mac_resume K) [] := by
  refine metD (k := 2) T.cMachine T.mMachine_resume T.f_Machine_resume sc_Machine_resume (fun _ _ _ _ _ _ us hl => match us, hl with | [_, _, _], _ => rfl) (fun vs H Q Ex h => ?_) (fun cdv A outer s H vs Q Ex hr h => ⟨_, (pss_cons (ps_set (i := 3) sc_Machine_resume.nd rfl (by first | exact Or.inl rfl | exact Or.inr rfl) (pe_ix ix_2 (pv 1) pe_int (fun _ _ => rfl))) (pss_cons (ps_if ((pw_or (pt_cmpR op_eq (pv 3) pe_str (by rfl)) (pw_or1 (pt_cmpR op_eq (pv 3) pe_str (by rfl))))).pt (pss_cons (ps_expr (pe_mv v_Machine_wait hr (by omega) (pv 0) (pa_cons (pe_op op_plus (pv 3) pe_str) (pa_cons (pv 2) pa_nil)))) (pss_one (ps_ret (pe_tup (pa_cons (pe_ix ix_2 (pe_ix ix_2 (pv 1) pe_int (fun _ _ => rfl)) pe_int (fun _ _ => rfl)) (pa_cons (pe_ix ix_2 (pv 1) pe_int (fun _ _ => rfl)) (pa_cons pe_non pa_nil))))))) pss_nil) (pss_cons (ps_if (pt_cmpR op_eq (pv 3) pe_str (by rfl)) (pss_cons (ps_expr (pe_mv v_Machine_wait hr (by omega) (pv 0) (pa_cons pe_str (pa_cons (pe_ix ix_2 (pe_ix ix_2 (pv 1) pe_int (fun _ _ => rfl)) pe_int (fun _ _ => rfl)) (pa_cons (pv 2) pa_nil))))) (pss_one (ps_ret (pe_tup (pa_cons (pe_ix ix_2 (pe_ix ix_2 (pv 1) pe_int (fun _ _ => rfl)) pe_int (fun _ _ => rfl)) (pa_cons (pe_ix ix_2 (pv 1) pe_int (fun _ _ => rfl)) (pa_cons pe_non pa_nil))))))) pss_nil) (pss_cons (ps_if (pt_cmpR op_eq (pv 3) pe_str (by rfl)) (pss_one (ps_ret (pe_tup (pa_cons pe_non (pa_cons pe_non (pa_cons (pe_tup (pa_cons pe_str (pa_cons (pe_ix ix_2 (pv 1) pe_int (fun _ _ => rfl)) (pa_cons (pv 2) pa_nil)))) pa_nil)))))) pss_nil) (pss_cons (ps_if (pt_cmpR op_eq (pv 3) pe_str (by rfl)) (pss_one (ps_ret (pe_tup (pa_cons pe_non (pa_cons pe_non (pa_cons (C8.pe_c c_calculated hr (by omega) (by rfl) (pa_cons (pe_ix ix_2 (pv 1) pe_int (fun _ _ => rfl)) (pa_cons (pe_ix ix_2 (pe_ix ix_2 (pv 1) pe_int (fun _ _ => rfl)) pe_int (fun _ _ => rfl)) (pa_cons (pe_ix ix_2 (pv 2) pe_int (fun _ _ => rfl)) pa_nil)))) pa_nil)))))) pss_nil) (pss_cons (ps_if (pt_cmpR op_eq (pv 3) pe_str (by rfl)) (pss_one (ps_ret (C8.pe_mt m_Machine_call hr (by omega) (pv 0) (pa_cons (pe_ix ix_2 (pv 1) pe_int (fun _ _ => rfl)) (pa_cons (pv 2) pa_nil))))) pss_nil) (pss_cons (ps_if (pt_cmpR op_eq (pv 3) pe_str (by rfl)) (pss_one (ps_ret (pe_tup (pa_cons (pe_ix ix_2 (pe_ix ix_2 (pv 1) pe_int (fun _ _ => rfl)) pe_int (fun _ _ => rfl)) (pa_cons (pe_tup (pa_cons (pe_ix ix_2 (pe_ix ix_2 (pv 1) pe_int (fun _ _ => rfl)) pe_int (fun _ _ => rfl)) (pa_cons (pv 2) (pa_cons (pe_ix ix_2 (pv 1) pe_int (fun _ _ => rfl)) pa_nil)))) (pa_cons pe_non pa_nil)))))) pss_nil) (pss_cons (ps_if (pt_cmpR op_eq (pv 3) pe_str (by rfl)) (pss_one (ps_ret (pe_tup (pa_cons (pe_ifExp (pt_tru (pe_ix ix_2 (pv 2) pe_int (fun _ _ => rfl))) (pe_ix ix_2 (pe_ix ix_2 (pv 1) pe_int (fun _ _ => rfl)) pe_int (fun _ _ => rfl)) (pe_ix ix_2 (pe_ix ix_2 (pv 1) pe_int (fun _ _ => rfl)) pe_int (fun _ _ => rfl))) (pa_cons (pe_ix ix_2 (pv 1) pe_int (fun _ _ => rfl)) (pa_cons pe_non pa_nil)))))) pss_nil) (pss_cons (ps_if (pt_cmpR op_eq (pv 3) pe_str (by rfl)) (pss_cons (ps_expr (pe_bm PySem.F.plainAttrs_list PySem.F.slot_list_append PySem.F.type_list_append mt_append (pe_g T.cMachine T.nMachine_prints (pv 0)) (pa_cons (pe_ix ix_2 (pv 2) pe_int (fun _ _ => rfl)) pa_nil))) (pss_one (ps_ret (pe_tup (pa_cons (pe_ix ix_2 (pe_ix ix_2 (pv 1) pe_int (fun _ _ => rfl)) pe_int (fun _ _ => rfl)) (pa_cons (pe_ix ix_2 (pv 1) pe_int (fun _ _ => rfl)) (pa_cons pe_non pa_nil))))))) pss_nil) (pss_cons (ps_if (pt_cmpR op_eq (pv 3) pe_str (by rfl)) (pss_one (ps_ret (C8.pe_mt m_Machine_ask hr (by omega) (pv 0) (pa_cons (pe_ix ix_2 (pe_ix ix_2 (pv 1) pe_int (fun _ _ => rfl)) pe_int (fun _ _ => rfl)) (pa_cons (pv 2) pa_nil))))) pss_nil) pss_never)))))))))), ?_⟩)
  · obtain ⟨x, f, v, s, t, r, uf, uv, rfl, _⟩ := h
    rfl
  · obtain ⟨x, f, v, s, t, r, uf, uv, rfl, ms, rF, rV, hb, k⟩ := h
    rw [st_Machine_resume]
    have ms0 := ms
    obtain ⟨dx, lp, lq, lf, vp, vh, vfs, pre, kk, mm, ma⟩ := ms0
    have ho := ma.obj
    have rV0 := rV
    cases hb with
    | @call g e env v hd fs lo l p hl =>
      obtain ⟨a, _, rfl, ha, _, _, rfl, rfl, _, _, rfl, ⟨b, _, rfl, hb, _, _, rfl, rfl, _, _, rfl, r1, _, _, rfl, r2, rfl⟩, _, _, rfl, r3, rfl⟩ := rF
      walk_at "w"
      refine ⟨_, _, rfl, ble_le rfl, fun q hq => ?_⟩
      refine ⟨x, q, hd, fs, lo, l, p, fCall2 v, rfl, ms.same (by walk_at "sm"), by walk_at "rp", hl, fun H2 le2 ms2 => ?_⟩
      have le3 : Le K H H2 := Le.trans (by walk_at "le") le2
      walk_at "w"
      exact k _ _ (by walk_at "le") (ms2.same (by walk_at "sm")) (by walk_at "rp")
    | @pair g e env v hd fs lo l p hl =>
      obtain ⟨a, _, rfl, ha, _, _, rfl, rfl, _, _, rfl, ⟨b, _, rfl, hb, _, _, rfl, rfl, _, _, rfl, r1, _, _, rfl, r2, rfl⟩, _, _, rfl, r3, rfl⟩ := rF
      walk_at "w"
      refine ⟨_, _, rfl, ble_le rfl, fun q hq => ?_⟩
      refine ⟨x, q, hd, fs, lo, l, p, fPair2 v, rfl, ms.same (by walk_at "sm"), by walk_at "rp", hl, fun H2 le2 ms2 => ?_⟩
      have le3 : Le K H H2 := Le.trans (by walk_at "le") le2
      walk_at "w"
      exact k _ _ (by walk_at "le") (ms2.same (by walk_at "sm")) (by walk_at "rp")
    | @op o e g env v hd fs lo l p hl =>
      obtain ⟨a, _, rfl, ha, _, _, rfl, rfl, _, _, rfl, ⟨b, _, rfl, hb, _, _, rfl, rfl, _, _, rfl, rfl, _, _, rfl, r1, _, _, rfl, r2, rfl⟩, _, _, rfl, r3, rfl⟩ := rF
      walk_at "w"
      refine ⟨_, _, rfl, ble_le rfl, fun q hq => ?_⟩
      refine ⟨x, q, hd, fs, lo, l, p, fOp2 o v, rfl, ms.same (by walk_at "sm"), by walk_at "rp", hl, fun H2 le2 ms2 => ?_⟩
      have le3 : Le K H H2 := Le.trans (by walk_at "le") le2
      walk_at "w"
      exact k _ _ (by walk_at "le") (ms2.same (by walk_at "sm")) (by walk_at "rp")
    | @pair2 u v s =>
      obtain ⟨a, _, rfl, ha, _, _, rfl, rfl, _, _, rfl, r1, rfl⟩ := rF
      walk_at "w"
      exact k _ _ (by walk_at "le") (ms.same (by walk_at "sm")) (by walk_at "rp")
    | @op2 o i j s hm =>
      obtain ⟨a, _, rfl, ha, _, _, rfl, rfl, _, _, rfl, rfl, _, _, rfl, ⟨b, _, rfl, hb, _, _, rfl, rfl, _, _, rfl, rfl, rfl⟩, rfl⟩ := rF
      obtain ⟨c, _, rfl, hc, _, _, rfl, rfl, _, _, rfl, rfl, rfl⟩ := rV
      walk_at "w"
      refine ⟨_, _, _, rfl, hm, fun H1 u1 s1 q1 => ?_⟩
      walk_at "w"
      exact k _ _ (by walk_at "le") ((ms.same s1).same (by walk_at "sm")) (by walk_at "rp")
    | @call2 g v s r t hc =>
      obtain ⟨a, _, rfl, ha, _, _, rfl, rfl, _, _, rfl, r1, rfl⟩ := rF
      walk_at "w"
      refine ⟨x, _, _, g, v, _, _, _, rfl, ms, r1, rV, hc, fun H2 u2 le2 ms2 r2 => ?_⟩
      walk_at "w"
      exact k _ _ le2 ms2 r2
    | @lt y e g env v s =>
      obtain ⟨a, _, rfl, ha, _, _, rfl, rfl, _, _, rfl, ⟨b, _, rfl, hb, _, _, rfl, rfl, _, _, rfl, rfl, _, _, rfl, r1, _, _, rfl, r2, rfl⟩, _, _, rfl, r3, rfl⟩ := rF
      walk_at "w"
      exact k _ _ (by walk_at "le") (ms.same (by walk_at "sm")) (by walk_at "rp")
    | @ite b e g h env s =>
      obtain ⟨a, _, rfl, ha, _, _, rfl, rfl, _, _, rfl, ⟨b2, _, rfl, hb, _, _, rfl, rfl, _, _, rfl, r1, _, _, rfl, r2, _, _, rfl, r4, rfl⟩, _, _, rfl, r3, rfl⟩ := rF
      obtain ⟨c, _, rfl, hc, _, _, rfl, rfl, _, _, rfl, rfl, rfl⟩ := rV
      cases b
      all_goals
        walk_at "w"
        exact k _ _ (by walk_at "le") (ms.same (by walk_at "sm")) (by walk_at "rp")
    | @print i e g env hd fs lo l p hl =>
      obtain ⟨a, _, rfl, ha, _, _, rfl, rfl, _, _, rfl, ⟨b, _, rfl, hb, _, _, rfl, rfl, _, _, rfl, r1, _, _, rfl, r2, rfl⟩, _, _, rfl, r3, rfl⟩ := rF
      obtain ⟨c, _, rfl, hc, _, _, rfl, rfl, _, _, rfl, rfl, rfl⟩ := rV
      obtain ⟨ho, hp, hq, ht, hf, rh, rf, n1, n2, n3, hlo⟩ := ma
      dsimp only at ho hp hq ht hf rh rf hlo
      have zp : (List.map V.int p).length ≤ 1000 := by rw [List.length_map]; exact hl
      walk_at "w"
      rename_i q hq'
      refine k _ _ (by walk_at "le") ?_ (by walk_at "rp")
      apply MachS.mk (dx := dx) (lp := lp) (lq := lq) (lf := lf) (vp := vp)
      all_goals try dsimp only
      · walk_at "lk"
      · rw [List.map_append]
        walk_at "lk"
      · walk_at "lk"
      · walk_at "lk"
      · walk_at "lk"
      · walk_at "rp"
      · walk_at "rp"
      · assumption
      · assumption
      · assumption
      · exact hlo.mono (by walk_at "le") (fun l v e m1 m2 m3 => by walk_at "lk")
    | @ask o e env h env2 v fs fs0 l p hl =>
      obtain ⟨a, _, rfl, ha, _, _, rfl, rfl, _, _, rfl, ⟨b, _, rfl, hb, _, _, rfl, rfl, _, _, rfl, rfl, _, _, rfl, r1, rfl⟩, _, _, rfl, r3, rfl⟩ := rF
      walk_at "w"
      refine ⟨x, h, env2, fs, fs0, l, p, o, v, _, rfl, ms, rV, hl, fun H2 u2 le2 ms2 r2 => ?_⟩
      walk_at "w"
      exact k _ _ le2 ms2 r2

end
set_option maxRecDepth 100000
set_option maxHeartbeats 400000
section
variable {P : Program} {w : World} {K : PySem.W.Frag} {mg : Str → Option Value} {base : Heap}

abbrev nm_Machine_run : List Str := ["self", "expression", "current", "env", "value", "frame"]
theorem sc_Machine_run : FnScope nm_Machine_run ["self", "expression"] (defScope s_Machine_run) := ⟨rfl, rfl, rfl, by decide +kernel, rfl, by decide +kernel, by decide +kernel⟩
theorem st_Machine_run {a0 a1 : V} : L2.start nm_Machine_run [a0, a1] = [some a0, some a1, none, none, none, none] := rfl

def sp_Mac_run (K : PySem.W.Frag) : Sp := fun vs H Q _ => ∃ (x : Addr) (c v : D) (s : MO) (p : List Int) (n : Nat) (uc : V), vs = [.ref x, uc] ∧ MachS K H x s ∧ Rep K H c uc ∧ MRun n (ev c .non) s v p ∧
  ∀ H' u l, Le K H H' → MachS K H' x ⟨.non, [], none, l, p⟩ → Rep K H' v u → Q u H'
theorem ok_Mac_run (T : Txt w K mg) (m_Machine_begin : C8.Met P w K mg base 2 (He.ga K "Machine") "begin" (sp_Mac_begin K) []) (m_Machine_resume : C8.Met P w K mg base 3 (He.ga K "Machine") "resume" (sp_Mac_resume K) []) (m_Machine_handled : C8.Met P w K mg base 1 (He.ga K "Machine") "handled" (sp_Mac_handled K) []) : C8.Met P w K mg base 4 (He.ga K "Machine") "run" (sp_Mac_run K) [] := by
  refine metD (k := 3) T.cMachine T.mMachine_run T.f_Machine_run sc_Machine_run (fun _ _ _ _ _ _ us hl => match us, hl with | [_, _], _ => rfl) (fun vs H Q Ex h => ?_) (fun cdv A outer s H vs Q Ex hr h => ⟨_, (pss_cons (ps_par3 (i := 2) (j := 3) (l := 4) rfl sc_Machine_run.nd rfl rfl rfl (by decide) (by decide) (by decide) rfl rfl rfl (pa_cons (pv 1) (pa_cons pe_non (pa_cons pe_non pa_nil))) rfl) (pss_one (ps_while PassesOwn.never (pt_tru pe_bl) (pss_one (ps_if (pt_cmpR op_notNn (pv 2) pe_non (by rfl)) (pss_one (ps_asg (C8.pe_mt m_Machine_begin hr (by omega) (pv 0) (pa_cons (pv 2) (pa_cons (pv 3) pa_nil))) (pg_tup rfl (pgs_cons (pg_name (i := 2) sc_Machine_run.nd rfl (by first | exact Or.inl rfl | exact Or.inr rfl)) (pgs_cons (pg_name (i := 3) sc_Machine_run.nd rfl (by first | exact Or.inl rfl | exact Or.inr rfl)) (pgs_cons (pg_name (i := 4) sc_Machine_run.nd rfl (by first | exact Or.inl rfl | exact Or.inr rfl)) pgs_nil)))))) (pss_one (ps_if (pt_tru (pe_ix ix_2 (pe_ix ix_2 (pe_g T.cMachine T.nMachine_pieces (pv 0)) (pe_un un_neg pe_int) (fun _ _ => rfl)) pe_int (fun _ _ => rfl))) (pss_cons (ps_set (i := 5) sc_Machine_run.nd rfl (by first | exact Or.inl rfl | exact Or.inr rfl) (pe_bm0 PySem.F.plainAttrs_list PySem.F.slot_list_pop PySem.F.type_list_pop mt_pop (pe_ix ix_2 (pe_ix ix_2 (pe_g T.cMachine T.nMachine_pieces (pv 0)) (pe_un un_neg pe_int) (fun _ _ => rfl)) pe_int (fun _ _ => rfl)))) (pss_one (ps_asg (C8.pe_mt m_Machine_resume hr (by omega) (pv 0) (pa_cons (pv 5) (pa_cons (pv 4) pa_nil))) (pg_tup rfl (pgs_cons (pg_name (i := 2) sc_Machine_run.nd rfl (by first | exact Or.inl rfl | exact Or.inr rfl)) (pgs_cons (pg_name (i := 3) sc_Machine_run.nd rfl (by first | exact Or.inl rfl | exact Or.inr rfl)) (pgs_cons (pg_name (i := 4) sc_Machine_run.nd rfl (by first | exact Or.inl rfl | exact Or.inr rfl)) pgs_nil))))))) (pss_one (ps_if (pt_cmpR op_eq (pe_callB call_len2 (by rfl) T.z_len PySem.boot_len (pa_cons (pe_g T.cMachine T.nMachine_pieces (pv 0)) pa_nil)) pe_int (by rfl)) (pss_one (ps_ret (pv 4))) (pss_one (ps_asg (C8.pe_mt m_Machine_handled hr (by omega) (pv 0) (pa_cons (pv 4) pa_nil)) (pg_tup rfl (pgs_cons (pg_name (i := 2) sc_Machine_run.nd rfl (by first | exact Or.inl rfl | exact Or.inr rfl)) (pgs_cons (pg_name (i := 3) sc_Machine_run.nd rfl (by first | exact Or.inl rfl | exact Or.inr rfl)) (pgs_cons (pg_name (i := 4) sc_Machine_run.nd rfl (by first | exact Or.inl rfl | exact Or.inr rfl)) pgs_nil))))))))))))))), ?_⟩)
  · obtain ⟨x, c, v, s, p, n, uc, rfl, _⟩ := h
    rfl
  · obtain ⟨x, c, v, s, p, n, uc0, rfl, ms, rC, hr', k⟩ := h
    rw [st_Machine_run]
    walk_at "w"
    refine ⟨fun m σ H' => Le K H H' ∧ ∃ a s uc ue uv v5, σ = [some (.ref x), some uc0, some uc, some ue, some uv, v5] ∧ MachS K H' x s ∧ Rep K H' (L3.c a) uc ∧ Rep K H' (L3.env a) ue ∧ Rep K H' (L3.v a) uv ∧ MRun m a s v p, ⟨n, Le.refl, ev c .non, s, _, _, _, _, rfl, ms, rC, rfl, rfl, hr'⟩, ?_⟩
    clear ms rC hr'
    rintro m σ H2 ⟨le2, a, s, uc, ue, uv, v5, rfl, ms, rc, re, rv', hr'⟩
    walk_at "w"
    refine ⟨_, fun σ' H' h => h, ?_⟩
    have ms0 := ms
    cases hr' with
    | done =>
      obtain ⟨dx, lp, lq, lf, vp, vh, vfs, pre, kk, mm, ⟨ho, hp, hq, ht, hf, rh, rf, n1, n2, n3, hlo⟩⟩ := ms0
      dsimp only at ho hp hq ht hf rh rf hlo rc re rv'
      obtain rfl : uc = .non := rc
      obtain rfl : pre = [] := hlo
      obtain rfl : vfs = [] := rf
      walk_at "w"
      exact k _ _ _ le2 ms rv'
    | step hst hr2 =>
      cases hst with
      | beg hb =>
        obtain ⟨ac, _, rfl, hac, rac⟩ := id rc
        obtain ⟨dx, lp, lq, lf, vp, vh, vfs, pre, kk, mm, ⟨ho, hp, hq, ht, hf, rh, rf, n1, n2, n3, hlo⟩⟩ := ms0
        walk_at "w"
        refine ⟨x, _, _, _, _, _, _, _, rfl, ms, rc, re, hb, fun H3 u3 le3 ms3 r3 => ?_⟩
        walk_at "w"
        obtain ⟨b3, _, rfl, hb3, vc3, _, rfl, rc3, ve3, _, rfl, re3, vv3, _, rfl, rv3, rfl⟩ := r3
        walk_at "w"
        exact ⟨_, Nat.lt_succ_self _, le2.trans le3, _, _, vc3, ve3, vv3, _, rfl, ms3, rc3, re3, rv3, hr2⟩
      | res hb =>
        obtain ⟨dx, lp, lq, lf, vp, vh, vfs, pre, kk, mm, ⟨ho, hp, hq, ht, hf, rh, rf, n1, n2, n3, hlo⟩⟩ := ms0
        dsimp only at ho hp hq ht hf rh rf hlo rc re rv'
        obtain rfl : uc = .non := rc
        obtain ⟨uf, vfs, rfl, rF, rf⟩ := rf
        walk_at "w"
        have le3 : Le K H2 (upd H2 lf (HO.lst vfs.reverse)) := by walk_at "le"
        refine ⟨x, _, _, _, _, _, _, _, rfl, MachS.mk (dx := dx) (lp := lp) (lq := lq) (lf := lf) (vp := vp) (vh := vh) (vfs := vfs) (by walk_at "lk") (by walk_at "lk") (by walk_at "lk") (by walk_at "lk") (by walk_at "lk") (by walk_at "rp") (by walk_at "rp") n1 n2 n3 (hlo.mono le3 (fun l v e m1 m2 m3 => by walk_at "lk")), rF.mono le3, rv'.mono le3, hb, fun H3 u3 le4 ms3 r3 => ?_⟩
        walk_at "w"
        obtain ⟨b3, _, rfl, hb3, vc3, _, rfl, rc3, ve3, _, rfl, re3, vv3, _, rfl, rv3, rfl⟩ := r3
        walk_at "w"
        exact ⟨_, Nat.lt_succ_self _, (le2.trans le3).trans le4, _, _, vc3, ve3, vv3, _, rfl, ms3, rc3, re3, rv3, hr2⟩
      | hdl =>
        obtain ⟨dx, lp, lq, lf, vp, vh, vfs, pre, kk, mm, ⟨ho, hp, hq, ht, hf, rh, rf, n1, n2, n3, hlo⟩⟩ := ms0
        dsimp only at ho hp hq ht hf rh rf hlo rc re rv'
        obtain rfl : uc = .non := rc
        obtain ⟨t0, l0, vs0, rfl, ht0, hl0, rf0, m1, m2, m3⟩ := hlo
        obtain rfl : vfs = [] := rf
        have hq2 : H2 lq = some (.lst [.ref t0, .ref vp]) := hq
        walk_at "w"
        refine ⟨x, _, _, _, _, _, _, _, rfl, ms, rv', fun H3 u3 le3 ms3 r3 => ?_⟩
        walk_at "w"
        obtain ⟨b3, _, rfl, hb3, vc3, _, rfl, rc3, ve3, _, rfl, re3, vv3, _, rfl, rv3, rfl⟩ := r3
        walk_at "w"
        exact ⟨_, Nat.lt_succ_self _, le2.trans le3, _, _, vc3, ve3, vv3, _, rfl, ms3, rc3, re3, rv3, hr2⟩

abbrev nm_run_counted : List Str := ["expression", "steps", "machine", "end", "stop"]
theorem sc_run_counted : FnScope nm_run_counted ["expression", "steps"] (defScope s_run_counted) := ⟨rfl, rfl, rfl, by decide +kernel, rfl, by decide +kernel, by decide +kernel⟩
theorem st_run_counted {a0 a1 : V} : L2.start nm_run_counted [a0, a1] = [some a0, some a1, none, none, none] := rfl

def sp_run_counted (K : PySem.W.Frag) : Sp := fun vs H Q _ => ∃ (d : D) (v : V) (n i j : Int) (p : List Int) (N : Nat), vs = [v, .int n] ∧ Rep K H d v ∧ MRun N (ev d .non) ⟨.non, [], none, n, []⟩ (.tup [.str "pair", vi i, vi j]) p ∧
  ∀ H' u a b, Le K H H' → Rep K H' (.tup [.tup (p.map D.int), endV i j, .tup [.int a, .int b]]) u → Q u H'
theorem ok_run_counted (T : Txt w K mg) (k_Machine : C8.Mak P w K mg base 1 "Machine" (He.ga K "Machine") (sp_Mac_init K) []) (m_Machine_run : C8.Met P w K mg base 4 (He.ga K "Machine") "run" (sp_Mac_run K) []) (c_value_shape : C8.Cal P w K mg base 2 "value_shape" (sp_vshape K) []) : C8.Cal P w K mg base 5 "run_counted" (sp_run_counted K) [] := by
  refine calD (k := 4) T.f_run_counted T.g_run_counted sc_run_counted (fun _ _ _ _ _ _ us hl => match us, hl with | [_, _], _ => rfl) (fun vs H Q Ex h => ?_) (fun cdv A outer s H vs Q Ex hr h => ⟨_, (pss_cons (ps_set (i := 2) sc_run_counted.nd rfl (by first | exact Or.inl rfl | exact Or.inr rfl) (C8.pe_mk k_Machine hr (by omega) (by rfl) (pa_cons (pv 1) pa_nil))) (pss_cons (ps_try_thru0 (pss_one (ps_set (i := 3) sc_run_counted.nd rfl (by first | exact Or.inl rfl | exact Or.inr rfl) (pe_tup (pa_cons pe_str (pa_cons (C8.pe_c c_value_shape hr (by omega) (by rfl) (pa_cons (C8.pe_mt m_Machine_run hr (by omega) (pv 2) (pa_cons (pv 0) pa_nil)) pa_nil)) pa_nil)))))) (pss_one (ps_ret (pe_tup (pa_cons (pe_callTy call_tupOf (by rfl) T.z_tuple (by decide +kernel) (pa_cons (pe_g T.cMachine T.nMachine_prints (pv 2)) pa_nil)) (pa_cons (pv 3) (pa_cons (pe_tup (pa_cons (pe_g T.cMachine T.nMachine_kept (pv 2)) (pa_cons (pe_g T.cMachine T.nMachine_most (pv 2)) pa_nil))) pa_nil)))))))), ?_⟩)
  · obtain ⟨d, v, n, i, j, p, N, rfl, _⟩ := h
    rfl
  · obtain ⟨d, v, n, i, j, p, N, rfl, rd, hrun, k⟩ := h
    rw [st_run_counted]
    walk_at "w"
    intro x dx hx hdx nx
    have hx2 : upd H dx (.own x) x = none := by rw [upd_ne nx.symm]; exact hx
    refine ⟨x, dx, n, rfl, by walk_at "lk", fun H1 le1 ms1 => ⟨rfl, ?_⟩⟩
    have le01 : Le K H H1 := Le.trans (by walk_at "le") le1
    walk_at "w"
    have ms0 := ms1
    obtain ⟨dx, lp, lq, lf, vp, vh, vfs, pre, kk, mm, ⟨ho, hp, hq, ht, hf, rh, rf, n1, n2, n3, hlo⟩⟩ := ms0
    walk_at "w"
    refine ⟨x, _, _, _, _, _, _, rfl, ms1, rd.mono le01, hrun, fun H2 u2 l2 le2 ms2 r2 => ?_⟩
    walk_at "w"
    refine ⟨i, j, _, rfl, r2, fun H3 u3 s3 r3 => ?_⟩
    have ms3 := ms2.same s3
    clear ho hp hq ht hf rh rf n1 n2 n3 hlo
    have le03 : Le K H H3 := (le01.trans le2).after s3
    obtain ⟨dx2, lp, lq, lf, vp, vh, vfs, pre, kk, mm, ⟨ho, hp, hq, ht, hf, rh, rf, n1, n2, n3, hlo⟩⟩ := ms3
    dsimp only at ho hp
    have ri : Reps K H3 (p.map D.int) (p.map V.int) := reps_ints p
    walk_at "w"
    refine k _ _ kk mm (by walk_at "le") ?_
    walk_at "rp"

abbrev nm_run_machine : List Str := ["expression", "steps", "prints", "end", "measures"]
theorem sc_run_machine : FnScope nm_run_machine ["expression", "steps"] (defScope s_run_machine) := ⟨rfl, rfl, rfl, by decide +kernel, rfl, by decide +kernel, by decide +kernel⟩
theorem st_run_machine {a0 a1 : V} : L2.start nm_run_machine [a0, a1] = [some a0, some a1, none, none, none] := rfl

def sp_run_machine (K : PySem.W.Frag) : Sp := fun vs H Q _ => ∃ (d : D) (v : V) (n i j : Int) (p : List Int) (N : Nat), vs = [v, .int n] ∧ Rep K H d v ∧ MRun N (ev d .non) ⟨.non, [], none, n, []⟩ (.tup [.str "pair", vi i, vi j]) p ∧
  ∀ H' u, Le K H H' → Rep K H' (outD i j p) u → Q u H'
theorem ok_run_machine (T : Txt w K mg) (c_run_counted : C8.Cal P w K mg base 5 "run_counted" (sp_run_counted K) []) : C8.Cal P w K mg base 6 "run_machine" (sp_run_machine K) [] := by
  refine calD (k := 5) T.f_run_machine T.g_run_machine sc_run_machine (fun _ _ _ _ _ _ us hl => match us, hl with | [_, _], _ => rfl) (fun vs H Q Ex h => ?_) (fun cdv A outer s H vs Q Ex hr h => ⟨_, (pss_cons (ps_asg (C8.pe_c c_run_counted hr (by omega) (by rfl) (pa_cons (pv 0) (pa_cons (pv 1) pa_nil))) (pg_tup rfl (pgs_cons (pg_name (i := 2) sc_run_machine.nd rfl (by first | exact Or.inl rfl | exact Or.inr rfl)) (pgs_cons (pg_name (i := 3) sc_run_machine.nd rfl (by first | exact Or.inl rfl | exact Or.inr rfl)) (pgs_cons (pg_name (i := 4) sc_run_machine.nd rfl (by first | exact Or.inl rfl | exact Or.inr rfl)) pgs_nil))))) (pss_one (ps_ret (pe_tup (pa_cons (pv 2) (pa_cons (pv 3) pa_nil)))))), ?_⟩)
  · obtain ⟨d, v, n, i, j, p, N, rfl, _⟩ := h
    rfl
  · obtain ⟨d, v, n, i, j, p, N, rfl, rd, hrun, k⟩ := h
    rw [st_run_machine]
    walk_at "w"
    refine ⟨d, v, n, i, j, p, N, rfl, rd, hrun, fun H1 u1 ka kb le1 r1 => ?_⟩
    obtain ⟨a, _, rfl, ha, vq, _, rfl, rq, ve, _, rfl, re, vm, _, rfl, rm, rfl⟩ := r1
    walk_at "w"
    refine k _ _ (by walk_at "le") ?_
    unfold outD
    walk_at "rp"

end
set_option maxRecDepth 100000
set_option maxHeartbeats 400000
section
variable {P : Program} {w : World} {K : PySem.W.Frag} {mg : Str → Option Value} {base : Heap}

abbrev nm_Piece___init__ : List Str := ["self", "kind", "handler", "frames", "distance"]
theorem sc_Piece___init__ : FnScope nm_Piece___init__ ["self", "kind", "handler", "frames", "distance"] (defScope s_Piece___init__) := ⟨rfl, rfl, rfl, by decide +kernel, rfl, by decide +kernel, by decide +kernel⟩
theorem st_Piece___init__ {a0 a1 a2 a3 a4 : V} : L2.start nm_Piece___init__ [a0, a1, a2, a3, a4] = [some a0, some a1, some a2, some a3, some a4] := rfl

def sp_Pc_init (K : PySem.W.Frag) : Sp := fun vs H Q _ => ∃ (x dx b : Addr) (k : Int) (vh : V) (xs : List V), vs = [.ref x, .int k, vh, .ref b, .int 0] ∧ H x = some (.ins (cPc K) dx []) ∧ (SqL K H b xs ∨ SqT K H b xs) ∧
  ∀ H' lf lt, H lf = none → H lt = none → (∀ b o, b ≠ x → H b = some o → H' b = some o) → H' x = some (.ins (cPc K) dx (pcF k vh lf lt)) → H' lf = some (.lst xs) → H' lt = some (.dK []) → Q .non H'
theorem ok_Pc_init (T : Txt w K mg) : C8.Mak P w K mg base 1 "Piece" (He.ga K "Piece") (sp_Pc_init K) [] := by
  refine makD (k := 0) T.mkPiece T.g_Piece T.f_Piece___init__ sc_Piece___init__ (fun _ _ _ _ _ _ us hl => match us, hl with | [_, _, _, _, _], _ => rfl) (fun vs H Q Ex h => ?_) (fun cdv A outer s H vs Q Ex hr h => ⟨_, (pss_cons (ps_s T.cPiece T.nPiece_kind (pv 0) (pv 1)) (pss_cons (ps_s T.cPiece T.nPiece_handler (pv 0) (pv 2)) (pss_cons (ps_s T.cPiece T.nPiece_frames (pv 0) (pe_callTy call_listOf (by rfl) T.z_list (by decide +kernel) (pa_cons (pv 3) pa_nil))) (pss_cons (ps_s T.cPiece T.nPiece_distance (pv 0) (pv 4)) (pss_one (ps_s T.cPiece T.nPiece_table (pv 0) pe_dnewK)))))), ?_⟩)
  · obtain ⟨x, dx, b, k, vh, xs, rfl, _⟩ := h
    rfl
  · obtain ⟨x, dx, b, kd, vh, xs, rfl, hx, hb, k⟩ := h
    rw [st_Piece___init__]
    rcases hb with hb | hb
    · walk_at "w"
      intro lt hlt
      walk_at "w"
      rename_i lf hlf
      have hlf0 : H lf = none := free_new (free_new hlf)
      have hlt0 : H lt = none := free_new (free_new (free_new (free_new (free_new hlt))))
      refine k _ lf lt hlf0 hlt0 (fun b' o nb e => ?_) (by walk_at "lk") (by walk_at "lk") (by walk_at "lk")
      have nf : b' ≠ lf := ne_of_none e hlf0
      have nt : b' ≠ lt := ne_of_none e hlt0
      rw [upd_ne nb, upd_ne nt, upd_ne nb, upd_ne nb, upd_ne nf, upd_ne nb, upd_ne nb]
      exact e
    · walk_at "w"
      intro lt hlt
      walk_at "w"
      rename_i lf hlf
      have hlf0 : H lf = none := free_new (free_new hlf)
      have hlt0 : H lt = none := free_new (free_new (free_new (free_new (free_new hlt))))
      refine k _ lf lt hlf0 hlt0 (fun b' o nb e => ?_) (by walk_at "lk") (by walk_at "lk") (by walk_at "lk")
      have nf : b' ≠ lf := ne_of_none e hlf0
      have nt : b' ≠ lt := ne_of_none e hlt0
      rw [upd_ne nb, upd_ne nt, upd_ne nb, upd_ne nb, upd_ne nf, upd_ne nb, upd_ne nb]
      exact e

end
set_option maxRecDepth 100000
set_option maxHeartbeats 400000
section
variable {P : Program} {w : World} {K : PySem.W.Frag} {mg : Str → Option Value} {base : Heap}

abbrev nm_Piece_frozen : List Str := ["self"]
theorem sc_Piece_frozen : FnScope nm_Piece_frozen ["self"] (defScope s_Piece_frozen) := ⟨rfl, rfl, rfl, by decide +kernel, rfl, by decide +kernel, by decide +kernel⟩
theorem st_Piece_frozen {a0 : V} : L2.start nm_Piece_frozen [a0] = [some a0] := rfl

def sp_Pc_frozen (K : PySem.W.Frag) : Sp := fun vs H Q _ => ∃ (x dx lf lt : Addr) (k : Int) (vh : V) (xs : List V), vs = [.ref x] ∧ H x = some (.ins (cPc K) dx (pcF k vh lf lt)) ∧ H lf = some (.lst xs) ∧
  ∀ H' q t, Same H H' → H q = none → H t = none → H' q = some (.tup [.int k, vh, .ref t, .int 0]) → H' t = some (.tup xs) → Q (.ref q) H'
theorem ok_Pc_frozen (T : Txt w K mg) : C8.Met P w K mg base 1 (He.ga K "Piece") "frozen" (sp_Pc_frozen K) [] := by
  refine metD (k := 0) T.cPiece T.mPiece_frozen T.f_Piece_frozen sc_Piece_frozen (fun _ _ _ _ _ _ us hl => match us, hl with | [_], _ => rfl) (fun vs H Q Ex h => ?_) (fun cdv A outer s H vs Q Ex hr h => ⟨_, (pss_one (ps_ret (pe_tup (pa_cons (pe_g T.cPiece T.nPiece_kind (pv 0)) (pa_cons (pe_g T.cPiece T.nPiece_handler (pv 0)) (pa_cons (pe_callTy call_tupOf (by rfl) T.z_tuple (by decide +kernel) (pa_cons (pe_g T.cPiece T.nPiece_frames (pv 0)) pa_nil)) (pa_cons (pe_g T.cPiece T.nPiece_distance (pv 0)) pa_nil))))))), ?_⟩)
  · obtain ⟨x, dx, lf, lt, k, vh, xs, rfl, _⟩ := h
    rfl
  · obtain ⟨x, dx, lf, lt, kd, vh, xs, rfl, hx, hl, k⟩ := h
    rw [st_Piece_frozen]
    walk_at "w"
    rename_i t ht q hq
    exact k _ _ _ (by walk_at "sm") (free_new hq) ht (by walk_at "lk") (by walk_at "lk")

abbrev nm_Runner_enter : List Str := ["self", "block", "bindings"]
theorem sc_Runner_enter : FnScope nm_Runner_enter ["self", "block", "bindings"] (defScope s_Runner_enter) := ⟨rfl, rfl, rfl, by decide +kernel, rfl, by decide +kernel, by decide +kernel⟩
theorem st_Runner_enter {a0 a1 a2 : V} : L2.start nm_Runner_enter [a0, a1, a2] = [some a0, some a1, some a2] := rfl

def sp_Rn_enter (K : PySem.W.Frag) : Sp := fun vs H Q _ => ∃ (x dx bl a : Addr) (fs : List (Str × V)) (i : Nat) (vb : V) (xs : List V), vs = [.ref x, .int i, vb] ∧ H x = some (.ins (cRn K) dx fs) ∧ fs.lookup ("blocks" : Str) = some (V.ref bl) ∧ Nat.ble fs.length 100 = true ∧ H bl = some (.lst xs) ∧ xs[i]? = some (.ref a) ∧
  ∀ H' lo, H lo = none → H' x = some (.ins (cRn K) dx (putF "operands" (.ref lo) (putF "bindings" vb (putF "at" (.int 0) (putF "rows" (.ref a) fs))))) → H' lo = some (.lst []) → (∀ b o, b ≠ x → H b = some o → H' b = some o) → Q .non H'
theorem putF_len {f : Str} {v : V} : ∀ fs : List (Str × V), (putF f v fs).length ≤ fs.length + 1
  | [] => Nat.le_refl _
  | (g, u) :: r => by
    unfold putF
    split
    · exact Nat.le_succ _
    · exact Nat.succ_le_succ (putF_len r)
theorem ok_Rn_enter (T : Txt w K mg) : C8.Met P w K mg base 1 (He.ga K "Runner") "enter" (sp_Rn_enter K) [] := by
  refine metD (k := 0) T.cRunner T.mRunner_enter T.f_Runner_enter sc_Runner_enter (fun _ _ _ _ _ _ us hl => match us, hl with | [_, _, _], _ => rfl) (fun vs H Q Ex h => ?_) (fun cdv A outer s H vs Q Ex hr h => ⟨_, (pss_cons (ps_s T.cRunner T.nRunner_rows (pv 0) (pe_ix ix_2 (pe_g T.cRunner T.nRunner_blocks (pv 0)) (pv 1) (fun _ _ => rfl))) (pss_cons (ps_s T.cRunner T.nRunner_at (pv 0) pe_int) (pss_cons (ps_s T.cRunner T.nRunner_bindings (pv 0) (pv 2)) (pss_one (ps_s T.cRunner T.nRunner_operands (pv 0) (pe_lst pa_nil)))))), ?_⟩)
  · obtain ⟨x, dx, bl, a, fs, i, vb, xs, rfl, _⟩ := h
    rfl
  · obtain ⟨x, dx, bl, a, fs, i, vb, xs, rfl, hx, hl, hz, hb, hi, k⟩ := h
    rw [st_Runner_enter]
    have hz0 := Nat.le_of_ble_eq_true hz
    have hat := atI_nat hi
    walk_at "w"
    have z1 := putF_len (f := "rows") (v := V.ref a) fs
    refine ⟨x, dx, _, rfl, hx, by omega, ?_⟩
    walk_at "w"
    have z2 := putF_len (f := "at") (v := V.int 0) (putF "rows" (V.ref a) fs)
    refine ⟨x, dx, _, rfl, upd_same, by omega, ?_⟩
    walk_at "w"
    have z3 := putF_len (f := "bindings") (v := vb) (putF "at" (V.int 0) (putF "rows" (V.ref a) fs))
    refine ⟨x, dx, _, rfl, upd_same, by omega, ?_⟩
    walk_at "w"
    rename_i lo hlo
    refine ⟨x, dx, _, rfl, get_new upd_same hlo, by omega, ?_⟩
    walk_at "w"
    have hlo0 : H lo = none := free_new (free_new (free_new hlo))
    refine k _ lo hlo0 upd_same ?_ (fun b o nb e => ?_)
    · exact get_kind upd_same (get_new upd_same hlo) rfl
    have nl : b ≠ lo := ne_of_none e hlo0
    rw [upd_ne nb, upd_ne nl, upd_ne nb, upd_ne nb, upd_ne nb]
    exact e

abbrev nm_Runner___init__ : List Str := ["self", "code", "steps"]
theorem sc_Runner___init__ : FnScope nm_Runner___init__ ["self", "code", "steps"] (defScope s_Runner___init__) := ⟨rfl, rfl, rfl, by decide +kernel, rfl, by decide +kernel, by decide +kernel⟩
theorem st_Runner___init__ {a0 a1 a2 : V} : L2.start nm_Runner___init__ [a0, a1, a2] = [some a0, some a1, some a2] := rfl

def sp_Rn_init (K : PySem.W.Frag) : Sp := fun vs H Q _ => ∃ (H0 : Hp) (c : Cd) (x dx y dy a : Addr) (rows : List D) (n : Int), vs = [.ref x, .ref y, .int n] ∧ H x = some (.ins (cRn K) dx []) ∧ H y = some (.ins (He.ga K "Code") dy [("blocks", .ref c.bl)]) ∧ CdAt K H0 c ∧ Same H0 H ∧ H0 x = none ∧ c.bs[0]? = some (a, rows) ∧
  ∀ H', Le K H H' → RnS K H0 c H' x ⟨a, 0, .non, [], .non, [], none, n, []⟩ → Q .non H'
theorem ok_Rn_init (T : Txt w K mg) (k_Piece : C8.Mak P w K mg base 1 "Piece" (He.ga K "Piece") (sp_Pc_init K) []) (m_Runner_enter : C8.Met P w K mg base 1 (He.ga K "Runner") "enter" (sp_Rn_enter K) []) : C8.Mak P w K mg base 3 "Runner" (He.ga K "Runner") (sp_Rn_init K) [] := by
  refine makD (k := 2) T.mkRunner T.g_Runner T.f_Runner___init__ sc_Runner___init__ (fun _ _ _ _ _ _ us hl => match us, hl with | [_, _, _], _ => rfl) (fun vs H Q Ex h => ?_) (fun cdv A outer s H vs Q Ex hr h => ⟨_, (pss_cons (ps_s T.cRunner T.nRunner_blocks (pv 0) (pe_g T.cCode T.nCode_blocks (pv 1))) (pss_cons (ps_s T.cRunner T.nRunner_left (pv 0) (pv 2)) (pss_cons (ps_s T.cRunner T.nRunner_prints (pv 0) (pe_lst pa_nil)) (pss_cons (ps_s T.cRunner T.nRunner_kept (pv 0) pe_int) (pss_cons (ps_s T.cRunner T.nRunner_end (pv 0) pe_non) (pss_cons (ps_s T.cRunner T.nRunner_pieces (pv 0) (pe_lst (pa_cons (C8.pe_mk k_Piece hr (by omega) (by rfl) (pa_cons (C8.pe_gc (v := V.int 0) (by rfl) (by obtain ⟨t, ht⟩ := T.i_BOTTOM; exact ⟨_, ht, _, rfl⟩)) (pa_cons pe_non (pa_cons (pe_lst pa_nil) (pa_cons pe_int pa_nil))))) pa_nil))) (pss_one (ps_expr (C8.pe_mt m_Runner_enter hr (by omega) (pv 0) (pa_cons pe_int (pa_cons pe_non pa_nil))))))))))), ?_⟩)
  · obtain ⟨H0, c, x, dx, y, dy, a, rows, n, rfl, _⟩ := h
    rfl
  · obtain ⟨H0, c, x, dx, y, dy, a, rows, n, rfl, hx, hy, hc, sm, z, hb, k⟩ := h
    rw [st_Runner___init__]
    walk_at "w"
    rename_i lp hlp lb hlb
    have hlp0 : H lp = none := free_new (free_new hlp)
    have hlb0 : H lb = none := free_new (free_new (free_new (free_new (free_new (free_new hlb)))))
    have npb : lp ≠ lb := ne_of_none (by walk_at "lk" : _ = some (HO.lst [])) hlb
    intro px pdx hpx hpdx npx
    have hpx0 : H px = none := free_new (free_new (free_new (free_new (free_new (free_new (free_new hpx))))))
    have hpdx0 : H pdx = none := free_new (free_new (free_new (free_new (free_new (free_new (free_new hpdx))))))
    have nxp : x ≠ px := ne_of_none hx hpx0
    have nxd : x ≠ pdx := ne_of_none hx hpdx0
    have nlp : lp ≠ px := ne_of_none (by walk_at "lk" : _ = some (HO.lst [])) hpx
    have nld : lp ≠ pdx := ne_of_none (by walk_at "lk" : _ = some (HO.lst [])) hpdx
    have nbp : lb ≠ px := ne_of_none (upd_same : _ = some (HO.lst [])) hpx
    have nbd : lb ≠ pdx := ne_of_none (upd_same : _ = some (HO.lst [])) hpdx
    refine w_genS (F := fun HH => HH x = some (.ins (cRn K) dx [("blocks", .ref c.bl), ("left", .int n), ("prints", .ref lp), ("kept", .int 0), ("end", .non)]) ∧ HH lp = some (.lst []) ∧ HH lb = some (.lst []) ∧ HH px = some (.ins (cPc K) pdx []) ∧ ∀ b o, b ≠ x → H b = some o → HH b = some o) ⟨?_, ?_, ?_, ?_, fun b o nb e => ?_⟩ ?_
    · exact get_ne (get_ne (get_ne upd_same (ne_of_none (upd_same : _ = some _) hlb)) nxd) nxp
    · exact get_ne (get_ne (by walk_at "lk") nld) nlp
    · exact get_ne (get_ne upd_same nbd) nbp
    · exact upd_same
    · have e1 : b ≠ lp := ne_of_none e hlp0
      have e2 : b ≠ lb := ne_of_none e hlb0
      rw [upd_ne (ne_of_none e hpx0), upd_ne (ne_of_none e hpdx0), upd_ne e2, upd_ne nb, upd_ne nb, upd_ne nb, upd_ne e1, upd_ne nb, upd_ne nb]
      exact e
    rintro H1 ⟨ho1, hp1, hb1, hpx1, kp1⟩
    clear hlp hlb hpx hpdx
    refine ⟨px, pdx, lb, 0, .non, [], rfl, hpx1, .inl (sql_of hb1), fun H2 lf lt flf flt kp2 e1 e2 e3 => ⟨rfl, ?_⟩⟩
    have ho2 := kp2 _ _ nxp ho1
    have hp2 := kp2 _ _ nlp hp1
    have kp12 : ∀ b o, b ≠ x → H b = some o → H2 b = some o := fun b o nb e => kp2 _ _ (ne_of_none e hpx0) (kp1 _ _ nb e)
    have nf0 : lp ≠ lf := ne_of_none hp1 flf
    have smx : Same H0 H2 := fun b o e => kp12 _ _ (ne_of_none e z) (sm _ _ e)
    have zf : H0 lf = none := by
      cases hz : H0 lf with
      | none => rfl
      | some o => rw [kp1 _ _ (ne_of_none hz z) (sm _ _ hz)] at flf; cases flf
    have hbl := hc.bl
    have hbi : (c.bs.map fun b => V.ref b.1)[0]? = some (.ref a) := by rw [List.getElem?_map, hb]; rfl
    walk_at "w"
    rename_i lq hlq
    have hlq0 : H2 lq = none := hlq
    have nxq : x ≠ lq := ne_of_none ho2 hlq0
    refine ⟨x, dx, c.bl, a, _, 0, .non, _, rfl, upd_same, rfl, rfl, get_ne (get_new (smx _ _ hbl) hlq0) (ne_of_none hbl z), hbi, fun H3 lo flo e4 e5 kp3 => ?_⟩
    walk_at "w"
    have nlo : ∀ {b : Addr} {u : HO}, b ≠ x → H2 b = some u → b ≠ lo := fun nb e => ne_of_none (get_ne (get_new e hlq0) nb) flo
    have k23 : ∀ {b : Addr} {u : HO}, b ≠ x → H2 b = some u → H3 b = some u := fun nb e => kp3 _ _ nb (get_ne (get_new e hlq0) nb)
    have zlo : H0 lo = none := by
      cases hz : H0 lo with
      | none => rfl
      | some o => exact absurd rfl (nlo (ne_of_none hz z) (smx _ _ hz))
    have zlq : H0 lq = none := smx.free hlq0
    have hq3 : H3 lq = some (.lst [.ref px]) := kp3 _ _ nxq.symm (get_ne upd_same nxq.symm)
    have npx : lp ≠ x := ne_kind hp2 ho2 rfl
    have nfx : lf ≠ x := ne_kind e2 ho2 rfl
    have ntx : lt ≠ x := ne_kind e3 ho2 rfl
    refine k _ ?_ ⟨dx, pdx, lp, lq, lf, lt, lo, px, .non, .non, [], [], [], 0, e4, k23 npx hp2, hq3, k23 nxp.symm e1, k23 nfx e2, k23 ntx e3, e5, rfl, rfl, rfl, rfl, ne_of_none e2 hlq0, nf0.symm, (ne_of_none hp2 hlq0).symm, (nlo nfx e2).symm, (ne_of_none (get_ne upd_same nxq.symm : _ = some (HO.lst [V.ref px])) flo).symm, (nlo npx hp2).symm, nxp.symm, fun b o e => k23 (ne_of_none e z) (smx _ _ e), z, sm.free hlp0, zlq, zf, zlo, sm.free hpx0, rfl⟩
    · exact Le.of fun b u e zz => by
        have nb : b ≠ x := ne_of hx e (fun q => by rcases zz with ⟨_, rfl⟩ | ⟨_, _, rfl⟩ <;> cases q) |>.symm
        exact k23 nb (kp12 _ _ nb e)

abbrev nm_Runner_counted : List Str := ["self"]
theorem sc_Runner_counted : FnScope nm_Runner_counted ["self"] (defScope s_Runner_counted) := ⟨rfl, rfl, rfl, by decide +kernel, rfl, by decide +kernel, by decide +kernel⟩
theorem st_Runner_counted {a0 : V} : L2.start nm_Runner_counted [a0] = [some a0] := rfl

theorem ok_Rn_counted (T : Txt w K mg) : C8.Met P w K mg base 1 (He.ga K "Runner") "counted" (sp_counted (cRn K)) [] := by
  refine metD (k := 0) T.cRunner T.mRunner_counted T.f_Runner_counted sc_Runner_counted (fun _ _ _ _ _ _ us hl => match us, hl with | [_], _ => rfl) (fun vs H Q Ex h => ?_) (fun cdv A outer s H vs Q Ex hr h => ⟨_, (pss_cons (ps_if (pt_cmpR op_eq (pe_g T.cRunner T.nRunner_left (pv 0)) pe_int (by rfl)) pss_never pss_nil) (pss_cons (ps_a T.cRunner T.nRunner_left in_subI (pv 0) pe_int) (pss_one (ps_ret pe_bl)))), ?_⟩)
  · obtain ⟨x, dx, fs, j, rfl, _⟩ := h
    rfl
  · obtain ⟨x, dx, fs, j, rfl, hx, hl, hj, hz, k⟩ := h
    rw [st_Runner_counted]
    have hd : decide (V.int j = V.int 0) = false := decide_eq_false fun e => by
      have := V.int.inj e
      omega
    walk_at "w"
    exact k

abbrev nm_Runner_save : List Str := ["self", "frame"]
theorem sc_Runner_save : FnScope nm_Runner_save ["self"] (defScope s_Runner_save) := ⟨rfl, rfl, rfl, by decide +kernel, rfl, by decide +kernel, by decide +kernel⟩
theorem st_Runner_save {a0 : V} : L2.start nm_Runner_save [a0] = [some a0, none] := rfl

def sp_Rn_save (K : PySem.W.Frag) : Sp := fun vs H Q _ => ∃ (H0 : Hp) (c : Cd) (x : Addr) (a : Addr) (i : Nat) (b : D) (os : List D) (hd : D) (fs : List D) (lo : Option (List D)) (l : Int) (p : List Int), vs = [.ref x] ∧ RnS K H0 c H x ⟨a, i, b, os, hd, fs, lo, l, p⟩ ∧ fs.length ≤ 1000 ∧
  ∀ H', Le K H H' → RnS K H0 c H' x ⟨a, i, b, os, hd, rF a i b os :: fs, lo, l, p⟩ → (∀ t kvs, H t = some (.dK kvs) → H' t = some (.dK kvs)) → Q .non H'
theorem ok_Rn_save (T : Txt w K mg) : C8.Met P w K mg base 1 (He.ga K "Runner") "save" (sp_Rn_save K) [] := by
  refine metD (k := 0) T.cRunner T.mRunner_save T.f_Runner_save sc_Runner_save (fun _ _ _ _ _ _ us hl => match us, hl with | [_], _ => rfl) (fun vs H Q Ex h => ?_) (fun cdv A outer s H vs Q Ex hr h => ⟨_, (pss_cons (ps_set (i := 1) sc_Runner_save.nd rfl (by first | exact Or.inl rfl | exact Or.inr rfl) (pe_tup (pa_cons (pe_g T.cRunner T.nRunner_rows (pv 0)) (pa_cons (pe_g T.cRunner T.nRunner_at (pv 0)) (pa_cons (pe_g T.cRunner T.nRunner_bindings (pv 0)) (pa_cons (pe_callTy call_tupOf (by rfl) T.z_tuple (by decide +kernel) (pa_cons (pe_g T.cRunner T.nRunner_operands (pv 0)) pa_nil)) pa_nil)))))) (pss_one (ps_expr (pe_bm PySem.F.plainAttrs_list PySem.F.slot_list_append PySem.F.type_list_append mt_append (pe_g T.cPiece T.nPiece_frames (pe_ix ix_2 (pe_g T.cRunner T.nRunner_pieces (pv 0)) (pe_un un_neg pe_int) (fun _ _ => rfl))) (pa_cons (pv 1) pa_nil))))), ?_⟩)
  · obtain ⟨H0, c, x, a, i, b, os, hd, fs, lo, l, p, rfl, _⟩ := h
    rfl
  · obtain ⟨H0, c, x, a, i, b, os, hd, fs, lw, l, p, rfl, ⟨dx, pdx, lp, lq, lf, lt, lo, px, vb, vh, vfs, vops, pre, kk, ra⟩, hz, k⟩ := h
    rw [st_Runner_save]
    have ho := ra.obj
    have hp := ra.pr
    have hq := ra.pcs
    have hpo := ra.po
    have hf := ra.fr
    have ht := ra.tb
    have hop := ra.op
    have rb := ra.rb
    have ro := ra.ro.reverse
    dsimp only at ho hf rb ro
    have zf : vfs.length ≤ 100000 := by rw [ra.rf.length]; dsimp only; omega
    walk_at "w"
    rename_i q1 hq1 q2 hq2
    refine k _ (by walk_at "le") (RnAt.frs (RnAt.same ra ?_) rfl ?_).toS (fun t kvs e => by walk_at "lk")
    · walk_at "sm"
    · refine Reps.cons ?_ (ra.rf.mono (by walk_at "le"))
      walk_at "rp"

end
set_option maxRecDepth 100000
set_option maxHeartbeats 400000
section
variable {P : Program} {w : World} {K : PySem.W.Frag} {mg : Str → Option Value} {base : Heap}

abbrev nm_Runner_add_piece : List Str := ["self", "piece", "below", "more", "name"]
theorem sc_Runner_add_piece : FnScope nm_Runner_add_piece ["self", "piece"] (defScope s_Runner_add_piece) := ⟨rfl, rfl, rfl, by decide +kernel, rfl, by decide +kernel, by decide +kernel⟩
theorem st_Runner_add_piece {a0 a1 : V} : L2.start nm_Runner_add_piece [a0, a1] = [some a0, some a1, none, none, none] := rfl

def sp_Rn_add (K : PySem.W.Frag) : Sp := fun vs H Q _ => ∃ (Hb H0 : Hp) (c : Cd) (x y dy lf lt : Addr) (vh : V) (vks : List V) (a : Addr) (i : Nat) (b : D) (os : List D) (j : Nat) (b2 : D) (ks fs : List D) (l : Int) (p : List Int), vs = [.ref x, .ref y] ∧ CdAt K H0 c ∧ RnS K H0 c Hb x ⟨a, i, b, os, .non, fs, none, l, p⟩ ∧ Same Hb H ∧
  Hb y = none ∧ Hb lf = none ∧ Hb lt = none ∧ H y = some (.ins (cPc K) dy (pcF 1 vh lf lt)) ∧ H lf = some (.lst vks.reverse) ∧ H lt = some (.dK []) ∧ Rep K H (rHd j c.cl b2) vh ∧ Reps K H ks vks ∧
  ∀ H', Le K H H' → RnS K H0 c H' x ⟨a, i, b, os, rHd j c.cl b2, ks, some fs, l, p⟩ → Q .non H'
theorem upd_lock {H : Hp} {a q : Addr} {u v o : HO} (h : H a = some u) (n : H q = none) : upd (upd (upd H a v) q o) a u = upd H q o := by
  funext b
  by_cases e : b = a
  · subst e
    rw [upd_same, upd_ne (ne_of_none h n), h]
  · rw [upd_ne e]
    by_cases e2 : b = q
    · subst e2
      rw [upd_same, upd_same]
    · rw [upd_ne e2, upd_ne e2, upd_ne e]
theorem ok_Rn_add (T : Txt w K mg) : C8.Met P w K mg base 1 (He.ga K "Runner") "add_piece" (sp_Rn_add K) [] := by
  refine metD (k := 0) T.cRunner T.mRunner_add_piece T.f_Runner_add_piece sc_Runner_add_piece (fun _ _ _ _ _ _ us hl => match us, hl with | [_, _], _ => rfl) (fun vs H Q Ex h => ?_) (fun cdv A outer s H vs Q Ex hr h => ⟨_, (pss_cons (ps_set (i := 2) sc_Runner_add_piece.nd rfl (by first | exact Or.inl rfl | exact Or.inr rfl) (pe_g T.cPiece T.nPiece_table (pe_ix ix_2 (pe_g T.cRunner T.nRunner_pieces (pv 0)) (pe_un un_neg pe_int) (fun _ _ => rfl)))) (pss_cons (ps_set (i := 3) sc_Runner_add_piece.nd rfl (by first | exact Or.inl rfl | exact Or.inr rfl) pe_int) (pss_cons (ps_if (pt_cmpR op_eq (pe_g T.cPiece T.nPiece_kind (pv 1)) (C8.pe_gc (v := V.int 2) (by rfl) (by obtain ⟨t, ht⟩ := T.i_PLACE; exact ⟨_, ht, _, rfl⟩)) (by rfl)) pss_never pss_nil) (pss_cons (ps_s T.cPiece T.nPiece_table (pv 1) (pe_lock (pe_dc (own := [("name", 4)]) (tt := tYes) rfl sc_Runner_add_piece.nd (pi_keys (pv 2)) (blkOk_by (own := [("name", 4)]) (N := nm_Runner_add_piece) (sc := defScope s_Runner_add_piece) (by decide +kernel)) (fun _ _ _ _ _ => (pg_name (i := 4) sc_Runner_add_piece.nd rfl (by first | exact Or.inl rfl | exact Or.inr rfl))) (fun _ _ _ _ _ => pts_nil) (fun _ _ _ _ _ => (pv 4)) (fun _ _ _ _ _ => (pe_op op_add (pe_dget (hu_of hr) (pv 2) (pv 4) (fun _ _ => rfl)) (pv 3)))))) (pss_cons (ps_if (pt_cmpR op_eq (pe_g T.cPiece T.nPiece_kind (pv 1)) (C8.pe_gc (v := V.int 1) (by rfl) (by obtain ⟨t, ht⟩ := T.i_HANDLER; exact ⟨_, ht, _, rfl⟩)) (by rfl)) (pss_one (ps_lock (ps_for PassesOwn.never rfl (pi_keys (pe_ix ix_2 (pe_g T.cPiece T.nPiece_handler (pv 1)) pe_int (fun _ _ => rfl))) (pg_name (i := 4) sc_Runner_add_piece.nd rfl (by first | exact Or.inl rfl | exact Or.inr rfl)) (pss_one (ps_dput (hu_of hr) (pe_g T.cPiece T.nPiece_table (pv 1)) (pv 4) pe_int rfl))))) pss_nil) (pss_one (ps_expr (pe_bm PySem.F.plainAttrs_list PySem.F.slot_list_append PySem.F.type_list_append mt_append (pe_g T.cRunner T.nRunner_pieces (pv 0)) (pa_cons (pv 1) pa_nil))))))))), ?_⟩)
  · obtain ⟨Hb, H0, c, x, y, dy, lf, lt, vh, vks, a, i, b, os, j, b2, ks, fs, l, p, rfl, _⟩ := h
    rfl
  · obtain ⟨Hb, H0, c, x, y, dy, lf2, lt2, vh2, vks, a, i, b, os, j, b2, ks, fs, l, p, rfl, hc, ⟨dx, pdx, lp, lq, lf, lt, lo, px, vb, vh, vfs, vops, pre, kk, ra⟩, sm, fy, ff, ft, hy, hf2, ht2, rh2, rk, k⟩ := h
    rw [st_Runner_add_piece]
    have ra0 := ra
    replace ra := ra.same sm
    have ho := ra.obj
    have hp := ra.pr
    have hq := ra.pcs
    have hpo := ra.po
    have hf := ra.fr
    have ht := ra.tb
    have hop := ra.op
    dsimp only at ho hp hpo ht
    have epre : pre = [] := ra.low
    subst epre
    have hq2 : H lq = some (.lst [.ref px]) := hq
    obtain ⟨ah, _, rfl, hah, _, _, rfl, rfl, _, _, rfl, rfl, vb2, _, rfl, rb2, rfl⟩ := id rh2
    obtain ⟨t1, t2, hcl, ht1, ht2'⟩ := hc.cl
    have hcl1 := ra.sm _ _ hcl
    have nyx : y ≠ x := (ne_of_none ra0.obj fy).symm
    have nyp : y ≠ px := (ne_of_none ra0.po fy).symm
    walk_at "w"
    refine ⟨lt, .dK [], ht, trivial, fun od => ?_⟩
    refine ⟨_, rfl, lt, od, rfl, .inl ⟨[], upd_same, fun Dn hDn => ⟨fun i m H' => i = 0 ∧ m = 0 ∧ H' = upd (upd H lt (.frz od (.dK []))) Dn (.dK []), ⟨0, rfl, rfl, rfl⟩, ?_⟩⟩⟩
    rintro i1 m1 H1 ⟨rfl, rfl, rfl⟩
    have hDn0 : H Dn = none := free_new hDn
    refine .inl ⟨⟨get_new upd_same hDn, Nat.le_refl _⟩, get_new upd_same hDn, ?_⟩
    rw [upd_lock (show H lt = some (.dK []) from ht) hDn0]
    have nDx : Dn ≠ x := (ne_of_none ho hDn0).symm
    have nDy : Dn ≠ y := (ne_of_none hy hDn0).symm
    have nDc : Dn ≠ c.cl := (ne_of_none hcl1 hDn0).symm
    walk_at "w"
    refine ⟨c.cl, .dK [(Sum.inr "get", V.ref t1), (Sum.inr "put", V.ref t2)], by walk_at "lk", trivial, fun od2 => ?_⟩
    walk_at "w"
    generalize hH1 : upd (upd H Dn (HO.dK [])) y (HO.ins (cPc K) dy (putF "table" (V.ref Dn) (pcF 1 (V.ref ah) lf2 lt2))) = H1
    have hcl2 : H1 c.cl = some (HO.dK [(Sum.inr "get", V.ref t1), (Sum.inr "put", V.ref t2)]) := by
      rw [← hH1]
      walk_at "lk"
    have hD2 : H1 Dn = some (.dK []) := by
      rw [← hH1]
      exact get_ne upd_same nDy
    have hy2 : H1 y = some (.ins (cPc K) dy (pcF 1 (.ref ah) lf2 Dn)) := by
      rw [← hH1]
      exact upd_same
    have nyc : y ≠ c.cl := ne_kind hy hcl1 rfl
    have hah2 : SqT K H1 ah [V.int j, V.ref c.cl, vb2] := by
      rw [← hH1]
      walk_at "lk"
    have kp1 : ∀ b o, b ≠ y → H b = some o → H1 b = some o := fun b o nb e => by
      rw [← hH1, upd_ne nb]
      exact get_new e hDn0
    clear hH1
    walk_at "w"
    have ncy : c.cl ≠ y := nyc.symm
    have nah : ∀ {bb : Addr} {o : HO}, H1 bb = some o → (kindO o == 2) = false → bb ≠ c.cl ∧ bb ≠ Dn := fun e d => ⟨ne_kind e hcl2 d, ne_kind e hD2 d⟩
    refine ⟨c.cl, od2, rfl, .inl ⟨_, upd_same, for_it (walk_keys (kvs := [(Sum.inr "get", V.ref t1), (Sum.inr "put", V.ref t2)])) (fun i σ H' => H' c.cl = some (.frz od2 (.dK [(Sum.inr "get", V.ref t1), (Sum.inr "put", V.ref t2)])) ∧ H' Dn = some (.dK (([(Sum.inr "get", V.int 0), (Sum.inr "put", V.int 0)] : List (Key × V)).take i)) ∧ (∀ b o, b ≠ Dn → b ≠ c.cl → H1 b = some o → H' b = some o) ∧ ∃ v4, σ = [some (.ref x), some (.ref y), some (.ref lt), some (.int 1), v4])
      ⟨upd_same, get_ne hD2 nDc, fun b o _ n e => get_ne e n, _, rfl⟩ (fun i σ H' _ p => p.1) ?_ ?_⟩⟩
    · rintro i1 z1 σ H' H'' hi ⟨q1, q2, q3, v4, rfl⟩ ⟨rfl, kx, vx, hkx, rfl⟩
      have hy3 := q3 y _ nDy.symm nyc hy2
      match i1, hi with
      | 0, _ =>
        cases hkx
        walk_at "w"
        refine ⟨Dn, _, rfl, DPut.k (k := .inr "get") q2 (by decide), ?_⟩
        refine ⟨get_ne q1 nDc.symm, upd_same, fun b o n1 n2 e => get_ne (q3 b o n1 n2 e) n1, _, rfl⟩
      | 1, _ =>
        cases hkx
        walk_at "w"
        refine ⟨Dn, _, rfl, DPut.k (k := .inr "put") q2 (by decide), ?_⟩
        refine ⟨get_ne q1 nDc.symm, upd_same, fun b o n1 n2 e => get_ne (q3 b o n1 n2 e) n1, _, rfl⟩
    · rintro σ H' ⟨q1, q2, q3, v4, rfl⟩
      refine ⟨q1, ?_⟩
      generalize hH2 : upd H' c.cl (HO.dK [(Sum.inr "get", V.ref t1), (Sum.inr "put", V.ref t2)]) = H2
      have hD3 : H2 Dn = some (.dK [(Sum.inr "get", V.int 0), (Sum.inr "put", V.int 0)]) := by
        rw [← hH2]
        exact get_ne q2 nDc
      have kp2 : ∀ b o, b ≠ Dn → H1 b = some o → H2 b = some o := fun b o n1 e => by
        rw [← hH2]
        by_cases n2 : b = c.cl
        · subst n2
          rw [hcl2] at e
          cases e
          exact upd_same
        · exact get_ne (q3 b o n1 n2 e) n2
      clear hH2 q1 q2 q3
      have kp3 : ∀ b o, b ≠ y → H b = some o → H2 b = some o := fun b o n e => kp2 b o (ne_of_none e hDn0) (kp1 b o n e)
      have kpb : ∀ b o, Hb b = some o → H2 b = some o := fun b o e => kp3 b o (ne_of_none e fy) (sm _ _ e)
      have hx3 := kp3 x _ nyx.symm ho
      have hq3 := kp3 lq _ (ne_kind hq2 hy rfl) hq2
      have leb : Le K H H2 := Le.of fun b u e zz => kp3 b u (ne_of e hy (fun q => by rcases zz with ⟨_, rfl⟩ | ⟨_, _, rfl⟩ <;> cases q)) e
      walk_at "w"
      have le3 : Le K H (upd H2 lq (HO.lst ([V.ref px] ++ [V.ref y]))) := Le.lst leb hq3
      refine k _ le3 (RnAt.add ra0 rfl rfl (px' := y) (pdx' := dy) (lf' := lf2) (lt' := Dn) (vks := vks) (fun b o n e => get_ne (kpb b o e) n) upd_same (get_kind (kp2 y _ nDy.symm hy2) hq3 rfl) (get_ne (kp3 _ _ (ne_kind hf2 hy rfl) hf2) ?_) (get_kind hD3 hq3 rfl) fy ff (rh2.mono le3) (rk.mono le3))
      exact (ne_of_none ra0.pcs ff).symm

end
set_option maxRecDepth 100000
set_option maxHeartbeats 400000
section
variable {P : Program} {w : World} {K : PySem.W.Frag} {mg : Str → Option Value} {base : Heap}

abbrev nm_Runner_deliver : List Str := ["self", "value", "piece", "operands"]
theorem sc_Runner_deliver : FnScope nm_Runner_deliver ["self", "value"] (defScope s_Runner_deliver) := ⟨rfl, rfl, rfl, by decide +kernel, rfl, by decide +kernel, by decide +kernel⟩
theorem st_Runner_deliver {a0 a1 : V} : L2.start nm_Runner_deliver [a0, a1] = [some a0, some a1, none, none] := rfl

def RnE (K : PySem.W.Frag) (H0 : Hp) (c : Cd) (H : Hp) (x : Addr) (n m : Int) (p : List Int) : Prop := ∃ s dx pdx lp lq lf lt lo px vb vh, ∃ be : Addr, ∃ vfs vops pre kk, RnAt K H0 c H x s dx pdx lp lq lf lt lo px vb vh (.ref be) vfs vops pre kk ∧ Rep K H (endV n m) (.ref be) ∧ s.prints = p
def sp_Rn_deliver (K : PySem.W.Frag) : Sp := fun vs H Q _ => ∃ (H0 : Hp) (c : Cd) (x : Addr) (uv : V) (v : D) (s : RO), vs = [.ref x, uv] ∧ CdAt K H0 c ∧ RnS K H0 c H x s ∧ Rep K H v uv ∧
  ((∃ t, RDel c v s t ∧ ∀ H', Le K H H' → RnS K H0 c H' x t → Q .non H') ∨ ∃ n m, v = .tup [.str "pair", vi n, vi m] ∧ s.fs = [] ∧ s.low = none ∧ ∀ H', Le K H H' → RnE K H0 c H' x n m s.prints → Q .non H')
theorem bl_at {K : PySem.W.Frag} {H0 : Hp} {c : Cd} (hc : CdAt K H0 c) {j : Nat} {a : Addr} {rows : List D} (hb : c.bs[j]? = some (a, rows)) : (c.bs.map fun b => V.ref b.1)[j]? = some (.ref a) := by rw [List.getElem?_map, hb]; rfl
theorem ok_Rn_deliver (T : Txt w K mg) (m_Runner_enter : C8.Met P w K mg base 1 (He.ga K "Runner") "enter" (sp_Rn_enter K) []) (c_value_shape : C8.Cal P w K mg base 2 "value_shape" (sp_vshape K) []) : C8.Met P w K mg base 3 (He.ga K "Runner") "deliver" (sp_Rn_deliver K) [] := by
  refine metD (k := 2) T.cRunner T.mRunner_deliver T.f_Runner_deliver sc_Runner_deliver (fun _ _ _ _ _ _ us hl => match us, hl with | [_, _], _ => rfl) (fun vs H Q Ex h => ?_) (fun cdv A outer s H vs Q Ex hr h => ⟨_, (pss_one (ps_while PassesOwn.never (pt_cmpR op_isNn (pe_g T.cRunner T.nRunner_end (pv 0)) pe_non (by rfl)) (pss_cons (ps_set (i := 2) sc_Runner_deliver.nd rfl (by first | exact Or.inl rfl | exact Or.inr rfl) (pe_ix ix_2 (pe_g T.cRunner T.nRunner_pieces (pv 0)) (pe_un un_neg pe_int) (fun _ _ => rfl))) (pss_cons (ps_if (pt_tru (pe_g T.cPiece T.nPiece_frames (pv 2))) (pss_cons (ps_asg (pe_bm0 PySem.F.plainAttrs_list PySem.F.slot_list_pop PySem.F.type_list_pop mt_pop (pe_g T.cPiece T.nPiece_frames (pv 2))) (pg_tup rfl (pgs_cons (pg_fld T.cRunner T.nRunner_rows (pv 0)) (pgs_cons (pg_fld T.cRunner T.nRunner_at (pv 0)) (pgs_cons (pg_fld T.cRunner T.nRunner_bindings (pv 0)) (pgs_cons (pg_name (i := 3) sc_Runner_deliver.nd rfl (by first | exact Or.inl rfl | exact Or.inr rfl)) pgs_nil)))))) (pss_cons (ps_s T.cRunner T.nRunner_operands (pv 0) (pe_callTy call_listOf (by rfl) T.z_list (by decide +kernel) (pa_cons (pv 3) pa_nil))) (pss_cons (ps_expr (pe_bm PySem.F.plainAttrs_list PySem.F.slot_list_append PySem.F.type_list_append mt_append (pe_g T.cRunner T.nRunner_operands (pv 0)) (pa_cons (pv 1) pa_nil))) (pss_one ps_retN)))) pss_nil) (pss_one (ps_if (pt_cmpR op_eq (pe_g T.cPiece T.nPiece_kind (pv 2)) (C8.pe_gc (v := V.int 0) (by rfl) (by obtain ⟨t, ht⟩ := T.i_BOTTOM; exact ⟨_, ht, _, rfl⟩)) (by rfl)) (pss_one (ps_s T.cRunner T.nRunner_end (pv 0) (pe_tup (pa_cons pe_str (pa_cons (C8.pe_c c_value_shape hr (by omega) (by rfl) (pa_cons (pv 1) pa_nil)) pa_nil))))) (pss_one (ps_if (pt_cmpR op_eq (pe_g T.cPiece T.nPiece_kind (pv 2)) (C8.pe_gc (v := V.int 1) (by rfl) (by obtain ⟨t, ht⟩ := T.i_HANDLER; exact ⟨_, ht, _, rfl⟩)) (by rfl)) (pss_cons (ps_expr (pe_bm0 PySem.F.plainAttrs_list PySem.F.slot_list_pop PySem.F.type_list_pop mt_pop (pe_g T.cRunner T.nRunner_pieces (pv 0)))) (pss_cons (ps_expr (C8.pe_mt m_Runner_enter hr (by omega) (pv 0) (pa_cons (pe_ix ix_2 (pe_g T.cPiece T.nPiece_handler (pv 2)) pe_int (fun _ _ => rfl)) (pa_cons (pe_tup (pa_cons (pv 1) (pa_cons (pe_ix ix_2 (pe_g T.cPiece T.nPiece_handler (pv 2)) pe_int (fun _ _ => rfl)) pa_nil))) pa_nil)))) (pss_one ps_retN))) pss_never)))))))), ?_⟩)
  · obtain ⟨H0, c, x, uv, v, s, rfl, _⟩ := h
    rfl
  · obtain ⟨H0, c, x, uv, v, s, rfl, hc, ⟨dx, pdx, lp, lq, lf, lt, lo, px, vb, vh, vfs, vops, pre, kk, ra⟩, rv', hb⟩ := h
    rw [st_Runner_deliver]
    have ho := ra.obj
    have hp := ra.pr
    have hq := ra.pcs
    have hpo := ra.po
    have hf := ra.fr
    have ht := ra.tb
    have hop := ra.op
    have low := ra.low
    have rf := ra.rf
    have rh := ra.rh
    rcases hb with ⟨t, hd, k⟩ | ⟨n, m, rfl, hfs, hlw, k⟩
    · cases hd with
      | frame hz =>
        dsimp only at ho hp hpo ht low rf rh
        obtain ⟨vf, vfs, rfl, rF, rf⟩ := rf
        obtain ⟨at1, _, rfl, hat1, _, _, rfl, rfl, _, _, rfl, rfl, vb2, _, rfl, rb2, _, _, rfl, ⟨at2, zs, rfl, hat2, rz⟩, rfl⟩ := rF
        obtain ⟨us, rfl, ru⟩ := rz.rev
        have zu : us.length ≤ 100000 := by rw [ru.length]; omega
        have ra1 := ra.frs (s' := ⟨_, _, _, _, _, _, _, _, _⟩) (vfs' := vfs) rfl rf
        walk_at "w"
        refine ⟨fun m σ H' => σ = [some (.ref x), some uv, none, none] ∧ H' = H, ⟨0, rfl, rfl⟩, ?_⟩
        rintro m σ H' ⟨rfl, rfl⟩
        walk_at "w"
        refine ⟨fun _ _ => False, fun _ _ h => h.elim, ?_⟩
        walk_at "w"
        rename_i q hq'
        have hqf : upd H' lf (HO.lst vfs.reverse) q = none := free_new (free_new (free_new hq'))
        refine k _ (by walk_at "le") (RnAt.toS (RnAt.ent ra1 (lo' := q) (vops' := uv :: us) (kk' := kk) (vb' := vb2) (ve' := .non) rfl rfl rfl rfl ?_ (fun b o nb e => ?_) ?_ hqf ?_ ?_))
        · dsimp only
          walk_at "lk"
        · have nq : b ≠ q := ne_of_none e hqf
          rw [upd_ne nq, upd_ne nb, upd_ne nq, upd_ne nb, upd_ne nb, upd_ne nb]
          exact e
        · walk_at "lk"
        · dsimp only
          walk_at "rp"
        · dsimp only
          walk_at "rp"
      | hdl hb =>
        dsimp only at ho hp hpo ht low rf rh
        obtain rfl : vfs = [] := rf
        obtain ⟨p0, pd0, l0, t0, vs0, rfl, a0, b0, d0, r0, m1, m2, m3, m4, m5, m6, m7, m8⟩ := low
        obtain ⟨at1, _, rfl, hat1, _, _, rfl, rfl, _, _, rfl, rfl, vb2, _, rfl, rb2, rfl⟩ := rh
        have hq2 : H lq = some (.lst [.ref p0, .ref px]) := hq
        have ra1 := ra.cut (H' := upd H lq (.lst [.ref p0])) rfl (get_kind ho hq2 rfl) (fun b o _ n e => get_ne e n) upd_same (.inl rfl)
        obtain ⟨dx2, pdx2, lp2, lq2, lf2, lt2, lo2, px2, vb3, vh3, vfs2, vops2, pre2, kk2, ra2⟩ := ra1
        have ho2 := ra2.obj
        have hbl := ra2.sm _ _ hc.bl
        have hbi := bl_at hc hb
        walk_at "w"
        refine ⟨fun m σ H' => σ = [some (.ref x), some uv, none, none] ∧ H' = H, ⟨0, rfl, rfl⟩, ?_⟩
        rintro m σ H' ⟨rfl, rfl⟩
        walk_at "w"
        refine ⟨fun _ _ => False, fun _ _ h => h.elim, ?_⟩
        walk_at "w"
        rename_i q hq'
        refine ⟨x, dx2, c.bl, _, _, _, _, _, rfl, get_new ho2 hq', rfl, rfl, get_new hbl hq', hbi, fun H3 lo3 flo e4 e5 kp3 => ?_⟩
        walk_at "w"
        have le3 : Le K (upd (upd H' lq (HO.lst [V.ref p0])) q (HO.tup [uv, vb2])) H3 := Le.of fun b u e zz => kp3 _ _ (ne_of e (get_new ho2 hq') (fun qq => by rcases zz with ⟨_, rfl⟩ | ⟨_, _, rfl⟩ <;> cases qq)) e
        have le4 : Le K H' H3 := Le.trans (by walk_at "le") le3
        refine k _ le4 (RnAt.toS (RnAt.ent (ra2.same (Same.new (Same.refl _) hq')) (lo' := lo3) (vops' := []) (kk' := kk2) (vb' := .ref q) (ve' := .non) rfl rfl rfl rfl e4 kp3 e5 flo rfl ?_))
        exact Rep.mk (le3 _ _ (sqt_of upd_same)) (Reps.cons (rv'.mono le4) (Reps.cons (rb2.mono le4) rfl))
    · obtain ⟨ra0, pc0, b0, os0, hd0, fs0, lw0, l0, p0⟩ := s
      dsimp only at ho hp hpo ht low rf rh hfs hlw k
      subst hfs hlw
      obtain rfl : vfs = [] := rf
      have epre : pre = [] := low
      subst epre
      walk_at "w"
      refine ⟨fun m' σ H' => (m' = 1 ∧ σ = [some (.ref x), some uv, none, none] ∧ H' = H) ∨ (m' = 0 ∧ Le K H H' ∧ RnE K H0 c H' x n m p0 ∧ ∃ v3 v4, σ = [some (.ref x), some uv, v3, v4]), ⟨1, .inl ⟨rfl, rfl, rfl⟩⟩, ?_⟩
      rintro m' σ H' (⟨rfl, rfl, rfl⟩ | ⟨rfl, le2, rE, v3, v4, rfl⟩)
      · walk_at "w"
        refine ⟨_, fun _ _ h => h, ?_⟩
        walk_at "w"
        refine ⟨n, m, _, rfl, rv', fun H2 u2 s2 r2 => ?_⟩
        have ra2 := ra.same s2
        have ho2 := ra2.obj
        walk_at "w"
        rename_i q hq'
        refine ⟨0, by omega, .inr ⟨rfl, by walk_at "le", ?_, _, _, rfl⟩⟩
        refine ⟨⟨ra0, pc0, b0, os0, hd0, [], none, l0, p0⟩, dx, pdx, lp, lq, lf, lt, lo, px, vb, vh, q, [], vops, [], kk, (ra2.same (Same.new (Same.refl _) hq')).fld rfl rfl rfl rfl rfl ((ra2.same (Same.new (Same.refl _) hq')).rb), ?_, rfl⟩
        walk_at "rp"
      · obtain ⟨s2, dx2, pdx2, lp2, lq2, lf2, lt2, lo2, px2, vb2, vh2, be, vfs2, vops2, pre2, kk2, ra2, re2, ep⟩ := id rE
        have ho2 := ra2.obj
        walk_at "w"
        exact k _ le2 rE

end
set_option maxRecDepth 100000
set_option maxHeartbeats 400000
section
variable {P : Program} {w : World} {K : PySem.W.Frag} {mg : Str → Option Value} {base : Heap}

def sp_Rn_counted (K : PySem.W.Frag) : Sp := fun vs H Q _ => ∃ (H0 : Hp) (c : Cd) (x : Addr) (a : Addr) (i : Nat) (b : D) (os : List D) (hd : D) (fs : List D) (lo : Option (List D)) (l : Int) (p : List Int), vs = [.ref x] ∧ RnS K H0 c H x ⟨a, i, b, os, hd, fs, lo, l, p⟩ ∧ 0 < l ∧
  ∀ H', Le K H H' → RnS K H0 c H' x ⟨a, i, b, os, hd, fs, lo, l - 1, p⟩ → Q (.bl true) H'
theorem ok_Rn_counted2 (T : Txt w K mg) : C8.Met P w K mg base 1 (He.ga K "Runner") "counted" (sp_Rn_counted K) [] := by
  refine metD (k := 0) T.cRunner T.mRunner_counted T.f_Runner_counted sc_Runner_counted (fun _ _ _ _ _ _ us hl => match us, hl with | [_], _ => rfl) (fun vs H Q Ex h => ?_) (fun cdv A outer s H vs Q Ex hr h => ⟨_, (pss_cons (ps_if (pt_cmpR op_eq (pe_g T.cRunner T.nRunner_left (pv 0)) pe_int (by rfl)) pss_never pss_nil) (pss_cons (ps_a T.cRunner T.nRunner_left in_subI (pv 0) pe_int) (pss_one (ps_ret pe_bl)))), ?_⟩)
  · obtain ⟨H0, c, x, a, i, b, os, hd, fs, lw, l, p, rfl, _⟩ := h
    rfl
  · obtain ⟨H0, c, x, a, i, b, os, hd, fs, lw, l, p, rfl, ⟨dx, pdx, lp, lq, lf, lt, lo, px, vb, vh, vfs, vops, pre, kk, ra⟩, hl, k⟩ := h
    rw [st_Runner_counted]
    have ho := ra.obj
    dsimp only at ho
    have hdd : decide (V.int l = V.int 0) = false := decide_eq_false fun e => by
      have := V.int.inj e
      omega
    walk_at "w"
    exact k _ (by walk_at "le") (RnAt.toS (RnAt.fld ra (s' := ⟨a, i, b, os, hd, fs, lw, l - 1, p⟩) (ve' := .non) (kk' := kk) rfl rfl rfl rfl rfl ra.rb))

abbrev nm_Runner_handle : List Str := ["self", "row", "bindings"]
theorem sc_Runner_handle : FnScope nm_Runner_handle ["self", "row"] (defScope s_Runner_handle) := ⟨rfl, rfl, rfl, by decide +kernel, rfl, by decide +kernel, by decide +kernel⟩
theorem st_Runner_handle {a0 a1 : V} : L2.start nm_Runner_handle [a0, a1] = [some a0, some a1, none] := rfl

def sp_Rn_handle (K : PySem.W.Frag) : Sp := fun vs H Q _ => ∃ (H0 : Hp) (c : Cd) (x : Addr) (a : Addr) (i : Nat) (b : D) (os : List D) (fs : List D) (l : Int) (p : List Int) (n m : Nat) (a2 : Addr) (rows : List D) (ur : V), vs = [.ref x, ur] ∧ CdAt K H0 c ∧ RnS K H0 c H x ⟨a, i, b, os, .non, fs, none, l, p⟩ ∧
  Rep K H (.tup [.str "handle", .int n, .int m, .adr c.cl]) ur ∧ fs.length ≤ 1000 ∧ c.bs[n]? = some (a2, rows) ∧
  ∀ H', Le K H H' → RnS K H0 c H' x ⟨a2, 0, b, [], rHd m c.cl b, [], some (rF a i b os :: fs), l, p⟩ → Q .non H'
theorem ok_Rn_handle (T : Txt w K mg) (m_Runner_save : C8.Met P w K mg base 1 (He.ga K "Runner") "save" (sp_Rn_save K) []) (m_Runner_add_piece : C8.Met P w K mg base 1 (He.ga K "Runner") "add_piece" (sp_Rn_add K) []) (m_Runner_enter : C8.Met P w K mg base 1 (He.ga K "Runner") "enter" (sp_Rn_enter K) []) (k_Piece : C8.Mak P w K mg base 1 "Piece" (He.ga K "Piece") (sp_Pc_init K) []) : C8.Met P w K mg base 3 (He.ga K "Runner") "handle" (sp_Rn_handle K) [] := by
  refine metD (k := 2) T.cRunner T.mRunner_handle T.f_Runner_handle sc_Runner_handle (fun _ _ _ _ _ _ us hl => match us, hl with | [_, _], _ => rfl) (fun vs H Q Ex h => ?_) (fun cdv A outer s H vs Q Ex hr h => ⟨_, (pss_cons (ps_expr (C8.pe_mt0 m_Runner_save hr (by omega) (pv 0))) (pss_cons (ps_set (i := 2) sc_Runner_handle.nd rfl (by first | exact Or.inl rfl | exact Or.inr rfl) (pe_g T.cRunner T.nRunner_bindings (pv 0))) (pss_cons (ps_expr (C8.pe_mt m_Runner_add_piece hr (by omega) (pv 0) (pa_cons (C8.pe_mk k_Piece hr (by omega) (by rfl) (pa_cons (C8.pe_gc (v := V.int 1) (by rfl) (by obtain ⟨t, ht⟩ := T.i_HANDLER; exact ⟨_, ht, _, rfl⟩)) (pa_cons (pe_tup (pa_cons (pe_ix ix_2 (pv 1) pe_int (fun _ _ => rfl)) (pa_cons (pe_ix ix_2 (pv 1) pe_int (fun _ _ => rfl)) (pa_cons (pv 2) pa_nil)))) (pa_cons (pe_lst pa_nil) (pa_cons pe_int pa_nil))))) pa_nil))) (pss_one (ps_expr (C8.pe_mt m_Runner_enter hr (by omega) (pv 0) (pa_cons (pe_ix ix_2 (pv 1) pe_int (fun _ _ => rfl)) (pa_cons (pv 2) pa_nil)))))))), ?_⟩)
  · obtain ⟨H0, c, x, a, i, b, os, fs, l, p, n, m, a2, rows, ur, rfl, _⟩ := h
    rfl
  · obtain ⟨H0, c, x, a, i, b, os, fs, l, p, n, m, a2, rows, ur, rfl, hc, rs, rr, hz, hb, k⟩ := h
    rw [st_Runner_handle]
    obtain ⟨dx, pdx, lp, lq, lf, lt, lo, px, vb, vh, vfs, vops, pre, kk, ra⟩ := id rs
    have ho := ra.obj
    obtain ⟨ar, _, rfl, har, _, _, rfl, rfl, _, _, rfl, rfl, _, _, rfl, rfl, _, _, rfl, rfl, rfl⟩ := rr
    walk_at "w"
    refine ⟨H0, c, x, a, i, b, os, .non, fs, none, l, p, rfl, rs, hz, fun H1 le1 rs1 _ => ?_⟩
    clear ho ra
    obtain ⟨dx2, pdx2, lp2, lq2, lf2, lt2, lo2, px2, vb2, vh2, vfs2, vops2, pre2, kk2, ra2⟩ := id rs1
    have ho2 := ra2.obj
    have rb2 := ra2.rb
    dsimp only at ho2 rb2
    walk_at "w"
    rename_i q1 hq1 q2 hq2
    intro y dy hy hdy ny
    have hy0 : H1 y = none := free_new (free_new hy)
    have hdy0 : H1 dy = none := free_new (free_new hdy)
    refine ⟨y, dy, q2, 1, .ref q1, [], rfl, upd_same, .inl (sql_of (get_new (get_new upd_same hdy) (by rw [upd_ne ny.symm]; exact hy))), fun H2 lf3 lt3 f1 f2 kp2 e1 e2 e3 => ⟨rfl, ?_⟩⟩
    have hy1 : upd (upd (upd H1 q1 (HO.tup [V.int m, V.ref c.cl, vb2])) q2 (HO.lst [])) dy (HO.own y) y = none := by rw [upd_ne ny.symm]; exact hy
    have s12 : Same H1 H2 := fun b o e => kp2 b o (ne_of_none e hy0) (get_new (get_new (get_new (get_new e hq1) hq2) hdy) hy1)
    have hq3 : SqT K H2 q1 [V.int m, V.ref c.cl, vb2] := sqt_of (kp2 _ _ (ne_of_none (get_new upd_same hq2) hy) (get_new (get_new (get_new upd_same hq2) hdy) hy1))
    have f10 : H1 lf3 = none := free_new (free_new (free_new (free_new f1)))
    have f20 : H1 lt3 = none := free_new (free_new (free_new (free_new f2)))
    clear hq1 hq2 hy hdy hy1 f1 f2 kp2
    walk_at "w"
    refine ⟨H1, H0, c, x, y, dy, lf3, lt3, .ref q1, [], a, i, b, os, m, b, [], _, l, p, rfl, hc, rs1, s12, hy0, f10, f20, e1, e2, e3, Rep.mk hq3 (Reps.cons rfl (Reps.cons rfl (Reps.cons (rb2.mono (Le.same s12)) rfl))), rfl, fun H3 le3 rs3 => ?_⟩
    have rb3 := (rb2.mono (Le.same s12)).mono le3
    have le03 : Le K H H3 := (le1.after s12).trans le3
    clear ra2 ho2 rb2 s12 hq3 e1 e2 e3
    obtain ⟨dx4, pdx4, lp4, lq4, lf4, lt4, lo4, px4, vb4, vh4, vfs4, vops4, pre4, kk4, ra4⟩ := rs3
    have ho4 := ra4.obj
    dsimp only at ho4
    have hbl := ra4.sm _ _ hc.bl
    have hbi := bl_at hc hb
    walk_at "w"
    refine ⟨x, _, c.bl, _, _, _, _, _, rfl, ho4, rfl, rfl, hbl, hbi, fun H5 lo5 flo e4 e5 kp5 => ?_⟩
    walk_at "w"
    have le5 : Le K H3 H5 := Le.of fun b u e zz => kp5 _ _ (ne_of e ho4 (fun qq => by rcases zz with ⟨_, rfl⟩ | ⟨_, _, rfl⟩ <;> cases qq)) e
    exact k _ (le03.trans le5) (RnAt.toS (RnAt.ent ra4 (lo' := lo5) (vops' := []) (kk' := kk4) (vb' := vb2) (ve' := .non) rfl rfl rfl rfl e4 kp5 e5 flo rfl (rb3.mono le5)))

end
set_option maxRecDepth 100000
set_option maxHeartbeats 400000
section
variable {P : Program} {w : World} {K : PySem.W.Frag} {mg : Str → Option Value} {base : Heap}

abbrev nm_Runner_call : List Str := ["self", "is_tail", "argument", "function", "kind", "handler", "frames", "distance", "bindings"]
theorem sc_Runner_call : FnScope nm_Runner_call ["self", "is_tail"] (defScope s_Runner_call) := ⟨rfl, rfl, rfl, by decide +kernel, rfl, by decide +kernel, by decide +kernel⟩
theorem st_Runner_call {a0 a1 : V} : L2.start nm_Runner_call [a0, a1] = [some a0, some a1, none, none, none, none, none, none, none] := rfl

def sp_Rn_call (K : PySem.W.Frag) : Sp := fun vs H Q _ => ∃ (H0 : Hp) (c : Cd) (x : Addr) (tl : Bool) (s t : RO), vs = [.ref x, .bl tl] ∧ CdAt K H0 c ∧ RnS K H0 c H x s ∧ RCall c tl s t ∧ ∀ H', Le K H H' → RnS K H0 c H' x t → Q .non H'
theorem ok_Rn_call (T : Txt w K mg) (m_Runner_counted : C8.Met P w K mg base 1 (He.ga K "Runner") "counted" (sp_Rn_counted K) []) (m_Runner_save : C8.Met P w K mg base 1 (He.ga K "Runner") "save" (sp_Rn_save K) []) (m_Runner_add_piece : C8.Met P w K mg base 1 (He.ga K "Runner") "add_piece" (sp_Rn_add K) []) (m_Runner_enter : C8.Met P w K mg base 1 (He.ga K "Runner") "enter" (sp_Rn_enter K) []) (k_Piece : C8.Mak P w K mg base 1 "Piece" (He.ga K "Piece") (sp_Pc_init K) []) (m_Runner_deliver : C8.Met P w K mg base 3 (He.ga K "Runner") "deliver" (sp_Rn_deliver K) []) : C8.Met P w K mg base 4 (He.ga K "Runner") "call" (sp_Rn_call K) [] := by
  refine metD (k := 3) T.cRunner T.mRunner_call T.f_Runner_call sc_Runner_call (fun _ _ _ _ _ _ us hl => match us, hl with | [_, _], _ => rfl) (fun vs H Q Ex h => ?_) (fun cdv A outer s H vs Q Ex hr h => ⟨_, (pss_cons (ps_set (i := 2) sc_Runner_call.nd rfl (by first | exact Or.inl rfl | exact Or.inr rfl) (pe_bm0 PySem.F.plainAttrs_list PySem.F.slot_list_pop PySem.F.type_list_pop mt_pop (pe_g T.cRunner T.nRunner_operands (pv 0)))) (pss_cons (ps_set (i := 3) sc_Runner_call.nd rfl (by first | exact Or.inl rfl | exact Or.inr rfl) (pe_bm0 PySem.F.plainAttrs_list PySem.F.slot_list_pop PySem.F.type_list_pop mt_pop (pe_g T.cRunner T.nRunner_operands (pv 0)))) (pss_cons (ps_if (pt_not (pt_tru (C8.pe_mt0 m_Runner_counted hr (by omega) (pv 0)))) (pss_one ps_retN) pss_nil) (pss_cons (ps_if (pt_not (pt_tru (pv 1))) (pss_one (ps_expr (C8.pe_mt0 m_Runner_save hr (by omega) (pv 0)))) pss_nil) (pss_one (ps_if (pt_cmpR op_eq (pe_ix ix_2 (pv 3) pe_int (fun _ _ => rfl)) pe_str (by rfl)) (pss_cons (ps_for PassesOwn.never rfl (pi_tup (pe_ix ix_2 (pv 3) pe_int (fun _ _ => rfl))) (pg_tup rfl (pgs_cons (pg_name (i := 4) sc_Runner_call.nd rfl (by first | exact Or.inl rfl | exact Or.inr rfl)) (pgs_cons (pg_name (i := 5) sc_Runner_call.nd rfl (by first | exact Or.inl rfl | exact Or.inr rfl)) (pgs_cons (pg_name (i := 6) sc_Runner_call.nd rfl (by first | exact Or.inl rfl | exact Or.inr rfl)) (pgs_cons (pg_name (i := 7) sc_Runner_call.nd rfl (by first | exact Or.inl rfl | exact Or.inr rfl)) pgs_nil))))) (pss_one (ps_expr (C8.pe_mt m_Runner_add_piece hr (by omega) (pv 0) (pa_cons (C8.pe_mk k_Piece hr (by omega) (by rfl) (pa_cons (pv 4) (pa_cons (pv 5) (pa_cons (pv 6) (pa_cons (pv 7) pa_nil))))) pa_nil))))) (pss_one (ps_expr (C8.pe_mt m_Runner_deliver hr (by omega) (pv 0) (pa_cons (pv 2) pa_nil))))) (pss_cons (ps_set (i := 8) sc_Runner_call.nd rfl (by first | exact Or.inl rfl | exact Or.inr rfl) (pe_ix ix_2 (pv 3) pe_int (fun _ _ => rfl))) (pss_cons (ps_if (pt_tru (pe_ix ix_2 (pv 3) pe_int (fun _ _ => rfl))) (pss_one (ps_set (i := 8) sc_Runner_call.nd rfl (by first | exact Or.inl rfl | exact Or.inr rfl) (pe_tup (pa_cons (pv 3) (pa_cons (pv 8) pa_nil))))) pss_nil) (pss_one (ps_expr (C8.pe_mt m_Runner_enter hr (by omega) (pv 0) (pa_cons (pe_ix ix_2 (pv 3) pe_int (fun _ _ => rfl)) (pa_cons (pe_tup (pa_cons (pv 2) (pa_cons (pv 8) pa_nil))) pa_nil))))))))))))), ?_⟩)
  · obtain ⟨H0, c, x, tl, s, t, rfl, _⟩ := h
    rfl
  · obtain ⟨H0, c, x, tl, s, t, rfl, hc, ⟨dx, pdx, lp, lq, lf, lt, lo, px, vb, vh, vfs, vops, pre, kk, ra⟩, hb, k⟩ := h
    rw [st_Runner_call]
    have ho := ra.obj
    have hp := ra.pr
    have hq := ra.pcs
    have hpo := ra.po
    have hf := ra.fr
    have ht := ra.tb
    have hop := ra.op
    have ro := ra.ro
    cases hb with
    | @fn a0 i0 b0 v i r b os hd0 fs lw l p a rows hl hzf hb =>
      dsimp only at ho ro
      obtain ⟨va, vops1, rfl, rv1, vf, vops2, rfl, rf1, ro2⟩ := ro
      have ra1 := RnAt.ops (s' := ⟨a0, i0, b0, os, hd0, fs, lw, l, p⟩) (vops' := vops2) (RnAt.ops (s' := ⟨a0, i0, b0, rfn i r b :: os, hd0, fs, lw, l, p⟩) (vops' := vf :: vops2) ra rfl ⟨_, _, rfl, rf1, ro2⟩) rfl (ro2.mono (Le.lst Le.refl hop))
      have ho1 := ra1.obj
      have leA : Le K H (upd (upd H lo (.lst (vf :: vops2).reverse)) lo (.lst vops2.reverse)) := Le.lst (Le.lst Le.refl hop) upd_same
      obtain ⟨af, _, rfl, haf, _, _, rfl, rfl, _, _, rfl, rfl, _, _, rfl, rfl, vbb, _, rfl, rb1, rfl⟩ := id rf1
      walk_at "w"
      refine ⟨H0, c, x, a0, i0, b0, os, hd0, fs, lw, l, p, rfl, ra1.toS, hl, fun H1 le1 rs1 => ?_⟩
      replace le1 := leA.trans le1
      clear ra1 ho1 ho hop hf ht hpo hp hq ra leA ro2
      cases tl
      · obtain ⟨dx9, pdx9, lp9, lq9, lf9, lt9, lo9, px9, vb9, vh9, vfs9, vops9, pre9, kk9, ra9⟩ := id rs1
        have ho9 := ra9.obj
        walk_at "w"
        clear ra9 ho9
        refine ⟨H0, c, x, a0, i0, b0, os, hd0, fs, lw, l - 1, p, rfl, rs1, hzf, fun H2 le2 rs2 _ => ?_⟩
        replace le2 := le1.trans le2
        cases r
        · obtain ⟨dx2, pdx2, lp2, lq2, lf2, lt2, lo2, px2, vb2, vh2, vfs2, vops2, pre2, kk2, ra2⟩ := rs2
          have ho2 := ra2.obj
          dsimp only at ho2
          have hbl := ra2.sm _ _ hc.bl
          have hbi := bl_at hc hb
          have rB := rb1.mono le2
          have rV := rv1.mono le2
          have rF := rf1.mono le2
          walk_at "w"
          rename_i q hq'
          refine ⟨x, dx2, c.bl, _, _, _, _, _, rfl, by walk_at "lk", rfl, rfl, by walk_at "lk", hbi, fun H5 lo5 flo e4 e5 kp5 => ?_⟩
          walk_at "w"
          have le5 : Le K (upd H2 q (HO.tup [va, vbb])) H5 := Le.of fun b u e zz => kp5 _ _ (ne_of e (get_new ho2 hq') (fun qq => by rcases zz with ⟨_, rfl⟩ | ⟨_, _, rfl⟩ <;> cases qq)) e
          have le6 : Le K H2 H5 := Le.trans (by walk_at "le") le5
          refine k _ (le2.trans le6) (RnAt.toS (RnAt.ent (ra2.same (Same.new (Same.refl _) hq')) (lo' := lo5) (vops' := []) (kk' := kk2) (vb' := .ref q) (ve' := .non) rfl rfl rfl rfl e4 kp5 e5 flo rfl ?_))
          exact Rep.mk (le5 _ _ (sqt_of upd_same)) (Reps.cons (rV.mono le6) (Reps.cons (rB.mono le6) rfl))
        · obtain ⟨dx2, pdx2, lp2, lq2, lf2, lt2, lo2, px2, vb2, vh2, vfs2, vops2, pre2, kk2, ra2⟩ := rs2
          have ho2 := ra2.obj
          dsimp only at ho2
          have hbl := ra2.sm _ _ hc.bl
          have hbi := bl_at hc hb
          have rB := rb1.mono le2
          have rV := rv1.mono le2
          have rF := rf1.mono le2
          walk_at "w"
          rename_i q0 hq0 q hq'
          refine ⟨x, dx2, c.bl, _, _, _, _, _, rfl, by walk_at "lk", rfl, rfl, by walk_at "lk", hbi, fun H5 lo5 flo e4 e5 kp5 => ?_⟩
          walk_at "w"
          have le5 : Le K (upd (upd H2 q0 (HO.tup [.ref af, vbb])) q (HO.tup [va, .ref q0])) H5 := Le.of fun b u e zz => kp5 _ _ (ne_of e (get_new (get_new ho2 hq0) hq') (fun qq => by rcases zz with ⟨_, rfl⟩ | ⟨_, _, rfl⟩ <;> cases qq)) e
          have le6 : Le K H2 H5 := Le.trans (by walk_at "le") le5
          refine k _ (le2.trans le6) (RnAt.toS (RnAt.ent ((ra2.same (Same.new (Same.refl _) hq0)).same (Same.new (Same.refl _) hq')) (lo' := lo5) (vops' := []) (kk' := kk2) (vb' := .ref q) (ve' := .non) rfl rfl rfl rfl e4 kp5 e5 flo rfl ?_))
          exact Rep.mk (le5 _ _ (sqt_of upd_same)) (Reps.cons (rV.mono le6) (Reps.cons (Rep.mk (le5 _ _ (sqt_of (get_new upd_same hq'))) (Reps.cons (rF.mono le6) (Reps.cons (rB.mono le6) rfl))) rfl))
      · walk_at "w"
        have rs2 := rs1
        have le2 := le1
        cases r
        · obtain ⟨dx2, pdx2, lp2, lq2, lf2, lt2, lo2, px2, vb2, vh2, vfs2, vops2, pre2, kk2, ra2⟩ := rs2
          have ho2 := ra2.obj
          dsimp only at ho2
          have hbl := ra2.sm _ _ hc.bl
          have hbi := bl_at hc hb
          have rB := rb1.mono le2
          have rV := rv1.mono le2
          have rF := rf1.mono le2
          walk_at "w"
          rename_i q hq'
          refine ⟨x, dx2, c.bl, _, _, _, _, _, rfl, by walk_at "lk", rfl, rfl, by walk_at "lk", hbi, fun H5 lo5 flo e4 e5 kp5 => ?_⟩
          walk_at "w"
          have le5 : Le K (upd H1 q (HO.tup [va, vbb])) H5 := Le.of fun b u e zz => kp5 _ _ (ne_of e (get_new ho2 hq') (fun qq => by rcases zz with ⟨_, rfl⟩ | ⟨_, _, rfl⟩ <;> cases qq)) e
          have le6 : Le K H1 H5 := Le.trans (by walk_at "le") le5
          refine k _ (le2.trans le6) (RnAt.toS (RnAt.ent (ra2.same (Same.new (Same.refl _) hq')) (lo' := lo5) (vops' := []) (kk' := kk2) (vb' := .ref q) (ve' := .non) rfl rfl rfl rfl e4 kp5 e5 flo rfl ?_))
          exact Rep.mk (le5 _ _ (sqt_of upd_same)) (Reps.cons (rV.mono le6) (Reps.cons (rB.mono le6) rfl))
        · obtain ⟨dx2, pdx2, lp2, lq2, lf2, lt2, lo2, px2, vb2, vh2, vfs2, vops2, pre2, kk2, ra2⟩ := rs2
          have ho2 := ra2.obj
          dsimp only at ho2
          have hbl := ra2.sm _ _ hc.bl
          have hbi := bl_at hc hb
          have rB := rb1.mono le2
          have rV := rv1.mono le2
          have rF := rf1.mono le2
          walk_at "w"
          rename_i q0 hq0 q hq'
          refine ⟨x, dx2, c.bl, _, _, _, _, _, rfl, by walk_at "lk", rfl, rfl, by walk_at "lk", hbi, fun H5 lo5 flo e4 e5 kp5 => ?_⟩
          walk_at "w"
          have le5 : Le K (upd (upd H1 q0 (HO.tup [.ref af, vbb])) q (HO.tup [va, .ref q0])) H5 := Le.of fun b u e zz => kp5 _ _ (ne_of e (get_new (get_new ho2 hq0) hq') (fun qq => by rcases zz with ⟨_, rfl⟩ | ⟨_, _, rfl⟩ <;> cases qq)) e
          have le6 : Le K H1 H5 := Le.trans (by walk_at "le") le5
          refine k _ (le2.trans le6) (RnAt.toS (RnAt.ent ((ra2.same (Same.new (Same.refl _) hq0)).same (Same.new (Same.refl _) hq')) (lo' := lo5) (vops' := []) (kk' := kk2) (vb' := .ref q) (ve' := .non) rfl rfl rfl rfl e4 kp5 e5 flo rfl ?_))
          exact Rep.mk (le5 _ _ (sqt_of upd_same)) (Reps.cons (rV.mono le6) (Reps.cons (Rep.mk (le5 _ _ (sqt_of (get_new upd_same hq'))) (Reps.cons (rF.mono le6) (Reps.cons (rB.mono le6) rfl))) rfl))
    | @kp a0 i0 b0 v j b2 a i b ops ks os fs l p hl hzf hzo =>
      dsimp only at ho ro
      obtain ⟨va, vops1, rfl, rv1, vf, vops2, rfl, rf1, ro2⟩ := ro
      have ra1 := RnAt.ops (s' := ⟨a0, i0, b0, os, .non, fs, none, l, p⟩) (vops' := vops2) (RnAt.ops (s' := ⟨a0, i0, b0, rkept (rHd j c.cl b2) (rF a i b ops :: ks) :: os, .non, fs, none, l, p⟩) (vops' := vf :: vops2) ra rfl ⟨_, _, rfl, rf1, ro2⟩) rfl (ro2.mono (Le.lst Le.refl hop))
      have ho1 := ra1.obj
      have leA : Le K H (upd (upd H lo (.lst (vf :: vops2).reverse)) lo (.lst vops2.reverse)) := Le.lst (Le.lst Le.refl hop) upd_same
      obtain ⟨af, _, rfl, haf, _, _, rfl, rfl, _, _, rfl, ⟨b1, _, rfl, hb1, _, _, rfl, ⟨b3, _, rfl, hb3, _, _, rfl, rfl, vh1, _, rfl, rh1, _, _, rfl, ⟨c3, zs, rfl, hc3, rz⟩, _, _, rfl, rfl, rfl⟩, rfl⟩, rfl⟩ := id rf1
      obtain ⟨us, rfl, ru⟩ := rz.rev
      walk_at "w"
      refine ⟨H0, c, x, a0, i0, b0, os, .non, fs, none, l, p, rfl, ra1.toS, hl, fun H1 le1 rs1 => ?_⟩
      replace le1 := leA.trans le1
      clear ra1 ho1 ho hop hf ht hpo hp hq ra leA ro2
      cases tl
      · obtain ⟨dx9, pdx9, lp9, lq9, lf9, lt9, lo9, px9, vb9, vh9, vfs9, vops9, pre9, kk9, ra9⟩ := id rs1
        have ho9 := ra9.obj
        walk_at "w"
        clear ra9 ho9
        refine ⟨H0, c, x, a0, i0, b0, os, .non, fs, none, l - 1, p, rfl, rs1, hzf, fun H2 le2 rs2 _ => ?_⟩
        replace le2 := le1.trans le2
        obtain ⟨dx2, pdx2, lp2, lq2, lf2, lt2, lo2, px2, vb2, vh2, vfs2, vops2, pre2, kk2, ra2⟩ := id rs2
        have ho2 := ra2.obj
        dsimp only at ho2
        walk_at "w"
        refine ⟨b1, rfl, ⟨_, le2 _ _ hb1⟩, for_one (x := .ref b3) (le2 _ _ hb1) ?_⟩
        walk_at "w"
        intro y dy hy hdy ny
        have hy1 : upd H2 dy (HO.own y) y = none := by rw [upd_ne ny.symm]; exact hy
        refine ⟨y, dy, c3, 1, vh1, us.reverse, rfl, upd_same, .inr (sqt_new (sqt_new (le2 _ _ hc3) hdy) hy1), fun H3 lf3 lt3 f1 f2 kp3 e1 e2 e3 => ⟨rfl, ?_⟩⟩
        have s23 : Same H2 H3 := fun b o e => kp3 b o (ne_of_none e hy) (get_new (get_new e hdy) hy1)
        have f10 : H2 lf3 = none := free_new (free_new f1)
        have f20 : H2 lt3 = none := free_new (free_new f2)
        have ho3 := s23 _ _ ho2
        have le3 : Le K H H3 := le2.after s23
        clear hy1 f1 f2 kp3
        walk_at "w"
        refine ⟨H2, H0, c, x, y, dy, lf3, lt3, vh1, us, a0, i0, b0, os, j, b2, _, _, l - 1, p, rfl, hc, rs2, s23, hy, f10, f20, e1, e2, e3, rh1.mono le3, ru.mono le3, fun H4 le4 rs4 => ?_⟩
        replace le4 := le3.trans le4
        clear ra2 ho2 ho3 s23 e1 e2 e3
        obtain ⟨dx4, pdx4, lp4, lq4, lf4, lt4, lo4, px4, vb4, vh4, vfs4, vops4, pre4, kk4, ra4⟩ := id rs4
        have ho4 := ra4.obj
        dsimp only at ho4
        walk_at "w"
        refine ⟨le4 _ _ hb1, ?_⟩
        walk_at "w"
        refine ⟨H0, c, x, va, v, _, rfl, hc, rs4, rv1.mono le4, .inl ⟨_, RDel.frame hzo, fun H5 le5 rs5 => ?_⟩⟩
        walk_at "w"
        exact k _ (le4.trans le5) rs5
      · walk_at "w"
        have rs2 := rs1
        have le2 := le1
        obtain ⟨dx2, pdx2, lp2, lq2, lf2, lt2, lo2, px2, vb2, vh2, vfs2, vops2, pre2, kk2, ra2⟩ := id rs2
        have ho2 := ra2.obj
        dsimp only at ho2
        walk_at "w"
        refine ⟨b1, rfl, ⟨_, le2 _ _ hb1⟩, for_one (x := .ref b3) (le2 _ _ hb1) ?_⟩
        walk_at "w"
        intro y dy hy hdy ny
        have hy1 : upd H1 dy (HO.own y) y = none := by rw [upd_ne ny.symm]; exact hy
        refine ⟨y, dy, c3, 1, vh1, us.reverse, rfl, upd_same, .inr (sqt_new (sqt_new (le2 _ _ hc3) hdy) hy1), fun H3 lf3 lt3 f1 f2 kp3 e1 e2 e3 => ⟨rfl, ?_⟩⟩
        have s23 : Same H1 H3 := fun b o e => kp3 b o (ne_of_none e hy) (get_new (get_new e hdy) hy1)
        have f10 : H1 lf3 = none := free_new (free_new f1)
        have f20 : H1 lt3 = none := free_new (free_new f2)
        have ho3 := s23 _ _ ho2
        have le3 : Le K H H3 := le2.after s23
        clear hy1 f1 f2 kp3
        walk_at "w"
        refine ⟨H1, H0, c, x, y, dy, lf3, lt3, vh1, us, a0, i0, b0, os, j, b2, _, _, l - 1, p, rfl, hc, rs2, s23, hy, f10, f20, e1, e2, e3, rh1.mono le3, ru.mono le3, fun H4 le4 rs4 => ?_⟩
        replace le4 := le3.trans le4
        clear ra2 ho2 ho3 s23 e1 e2 e3
        obtain ⟨dx4, pdx4, lp4, lq4, lf4, lt4, lo4, px4, vb4, vh4, vfs4, vops4, pre4, kk4, ra4⟩ := id rs4
        have ho4 := ra4.obj
        dsimp only at ho4
        walk_at "w"
        refine ⟨le4 _ _ hb1, ?_⟩
        walk_at "w"
        refine ⟨H0, c, x, va, v, _, rfl, hc, rs4, rv1.mono le4, .inl ⟨_, RDel.frame hzo, fun H5 le5 rs5 => ?_⟩⟩
        walk_at "w"
        exact k _ (le4.trans le5) rs5

end
set_option maxRecDepth 100000
set_option maxHeartbeats 400000
section
variable {P : Program} {w : World} {K : PySem.W.Frag} {mg : Str → Option Value} {base : Heap}

abbrev nm_Runner_ask : List Str := ["self", "name", "value", "table", "place", "handler", "block", "in_place", "answer", "piece"]
theorem sc_Runner_ask : FnScope nm_Runner_ask ["self", "name"] (defScope s_Runner_ask) := ⟨rfl, rfl, rfl, by decide +kernel, rfl, by decide +kernel, by decide +kernel⟩
theorem st_Runner_ask {a0 a1 : V} : L2.start nm_Runner_ask [a0, a1] = [some a0, some a1, none, none, none, none, none, none, none, none] := rfl

def sp_Rn_ask (K : PySem.W.Frag) : Sp := fun vs H Q _ => ∃ (H0 : Hp) (c : Cd) (x : Addr) (op : Op) (a0 : Addr) (i0 : Nat) (b0 v : D) (os : List D) (j : Nat) (b : D) (fs fs0 : List D) (l : Int) (p : List Int) (a : Addr) (rows : List D), vs = [.ref x, .str op.str] ∧ CdAt K H0 c ∧ RnS K H0 c H x ⟨a0, i0, b0, v :: os, rHd j c.cl b, fs, some fs0, l, p⟩ ∧ 0 < l ∧ fs.length ≤ 1000 ∧ c.bs[c.at op]? = some (a, rows) ∧
  ∀ H', Le K H H' → RnS K H0 c H' x ⟨a, 0, .tup [rkept (rHd j c.cl b) (rF a0 i0 b0 os :: fs), .tup [v, b]], [], .non, fs0, none, l - 1, p⟩ → Q .non H'
theorem ok_Rn_ask (T : Txt w K mg) (m_Runner_counted : C8.Met P w K mg base 1 (He.ga K "Runner") "counted" (sp_Rn_counted K) []) (m_Runner_save : C8.Met P w K mg base 1 (He.ga K "Runner") "save" (sp_Rn_save K) []) (m_Piece_frozen : C8.Met P w K mg base 1 (He.ga K "Piece") "frozen" (sp_Pc_frozen K) []) (m_Runner_enter : C8.Met P w K mg base 1 (He.ga K "Runner") "enter" (sp_Rn_enter K) []) : C8.Met P w K mg base 2 (He.ga K "Runner") "ask" (sp_Rn_ask K) [] := by
  refine metD (k := 1) T.cRunner T.mRunner_ask T.f_Runner_ask sc_Runner_ask (fun _ _ _ _ _ _ us hl => match us, hl with | [_, _], _ => rfl) (fun vs H Q Ex h => ?_) (fun cdv A outer s H vs Q Ex hr h => ⟨_, (pss_cons (ps_set (i := 2) sc_Runner_ask.nd rfl (by first | exact Or.inl rfl | exact Or.inr rfl) (pe_bm0 PySem.F.plainAttrs_list PySem.F.slot_list_pop PySem.F.type_list_pop mt_pop (pe_g T.cRunner T.nRunner_operands (pv 0)))) (pss_cons (ps_if (pt_not (pt_tru (C8.pe_mt0 m_Runner_counted hr (by omega) (pv 0)))) (pss_one ps_retN) pss_nil) (pss_cons (ps_set (i := 3) sc_Runner_ask.nd rfl (by first | exact Or.inl rfl | exact Or.inr rfl) (pe_g T.cPiece T.nPiece_table (pe_ix ix_2 (pe_g T.cRunner T.nRunner_pieces (pv 0)) (pe_un un_neg pe_int) (fun _ _ => rfl)))) (pss_cons (ps_if (pt_cmp (pc_dnotin (hu_of hr) (pv 1) (pv 3))) pss_never pss_nil) (pss_cons (ps_expr (C8.pe_mt0 m_Runner_save hr (by omega) (pv 0))) (pss_cons (ps_set (i := 4) sc_Runner_ask.nd rfl (by first | exact Or.inl rfl | exact Or.inr rfl) (pe_op op_sub (pe_op op_sub (pe_callB call_len2 (by rfl) T.z_len PySem.boot_len (pa_cons (pe_g T.cRunner T.nRunner_pieces (pv 0)) pa_nil)) pe_int) (pe_dget (hu_of hr) (pv 3) (pv 1) (fun _ _ => rfl)))) (pss_cons (ps_set (i := 5) sc_Runner_ask.nd rfl (by first | exact Or.inl rfl | exact Or.inr rfl) (pe_g T.cPiece T.nPiece_handler (pe_ix ix_2 (pe_g T.cRunner T.nRunner_pieces (pv 0)) (pv 4) (fun _ _ => rfl)))) (pss_cons (ps_asg (pe_dget (hu_of hr) (pe_ix ix_2 (pv 5) pe_int (fun _ _ => rfl)) (pv 1) (fun _ _ => rfl)) (pg_tup rfl (pgs_cons (pg_name (i := 6) sc_Runner_ask.nd rfl (by first | exact Or.inl rfl | exact Or.inr rfl)) (pgs_cons (pg_name (i := 7) sc_Runner_ask.nd rfl (by first | exact Or.inl rfl | exact Or.inr rfl)) pgs_nil)))) (pss_cons (ps_set (i := 8) sc_Runner_ask.nd rfl (by first | exact Or.inl rfl | exact Or.inr rfl) (pe_glob (v := V.ref (He.ga K "UNIT_runner")) (by rfl) T.g_UNIT_runner rfl)) (pss_cons (ps_if (pt_tru (pv 7)) pss_never (pss_cons (ps_set (i := 8) sc_Runner_ask.nd rfl (by first | exact Or.inl rfl | exact Or.inr rfl) (pe_tup (pa_cons pe_str (pa_cons (pe_callTy call_tupOf (by rfl) T.z_tuple (by decide +kernel) (pa_cons (pe_lc (own := [("piece", 9)]) (tt := tYes) rfl sc_Runner_ask.nd (pi_list (pe_slice sl_2 (pe_g T.cRunner T.nRunner_pieces (pv 0)) (po_some (pv 4)) po_none)) (blkOk_by (own := [("piece", 9)]) (N := nm_Runner_ask) (sc := defScope s_Runner_ask) (by decide +kernel)) (fun _ _ _ _ _ => (pg_name (i := 9) sc_Runner_ask.nd rfl (by first | exact Or.inl rfl | exact Or.inr rfl))) (fun _ _ _ _ _ => pts_nil) (fun _ _ _ _ _ => (C8.pe_mt0 m_Piece_frozen hr (by omega) (pv 9)))) pa_nil)) pa_nil)))) (pss_cons (ps_s T.cRunner T.nRunner_pieces (pv 0) (pe_slice sl_2 (pe_g T.cRunner T.nRunner_pieces (pv 0)) po_none (po_some (pv 4)))) (pss_one (ps_a T.cRunner T.nRunner_kept in_addI (pv 0) pe_int))))) (pss_one (ps_expr (C8.pe_mt m_Runner_enter hr (by omega) (pv 0) (pa_cons (pv 6) (pa_cons (pe_tup (pa_cons (pv 8) (pa_cons (pe_tup (pa_cons (pv 2) (pa_cons (pe_ix ix_2 (pv 5) pe_int (fun _ _ => rfl)) pa_nil))) pa_nil))) pa_nil))))))))))))))), ?_⟩)
  · obtain ⟨H0, c, x, op, a0, i0, b0, v, os, j, b, fs, fs0, l, p, a, rows, rfl, _⟩ := h
    rfl
  · obtain ⟨H0, c, x, op, a0, i0, b0, v, os, j, b, fs, fs0, l, p, a, rows, rfl, hc, ⟨dx, pdx, lp, lq, lf, lt, lo, px, vb, vh, vfs, vops, pre, kk, ra⟩, hl, hzf, hb, k⟩ := h
    rw [st_Runner_ask]
    have ho := ra.obj
    have hp := ra.pr
    have hq := ra.pcs
    have hpo := ra.po
    have hf := ra.fr
    have ht := ra.tb
    have hop := ra.op
    have ro := ra.ro
    dsimp only at ho ro
    obtain ⟨va, vops1, rfl, rv1, ro2⟩ := ro
    have ra1 := RnAt.ops (s' := ⟨a0, i0, b0, os, rHd j c.cl b, fs, some fs0, l, p⟩) (vops' := vops1) ra rfl ro2
    have ho1 := ra1.obj
    have leA : Le K H (upd H lo (.lst vops1.reverse)) := Le.lst Le.refl hop
    walk_at "w"
    refine ⟨H0, c, x, a0, i0, b0, os, rHd j c.cl b, fs, some fs0, l, p, rfl, ra1.toS, hl, fun H1 le1 rs1 => ?_⟩
    replace le1 := leA.trans le1
    clear ra1 ho1 ho hop hf ht hpo hp hq ra leA ro2
    obtain ⟨dx9, pdx9, lp9, lq9, lf9, lt9, lo9, px9, vb9, vh9, vfs9, vops9, pre9, kk9, ra9⟩ := id rs1
    have ho9 := ra9.obj
    have hq9 := ra9.pcs
    have hpo9 := ra9.po
    have ht9 := ra9.tb
    dsimp only at ho9 hq9 hpo9 ht9
    walk_at "w"
    have hg : ∃ o, DGet H1 lt9 (.str op.str) o ∧ o = some (.int 0) := by
      cases op with
      | get => exact ⟨_, DGet.k (k := .inr "get") ht9, rfl⟩
      | put => exact ⟨_, DGet.k (k := .inr "put") ht9, rfl⟩
    obtain ⟨_, hg, rfl⟩ := hg
    refine w_B ⟨_, rfl, _, rfl, lt9, _, rfl, hg, _, rfl, ?_⟩
    walk_at "w"
    refine ⟨H0, c, x, a0, i0, b0, os, _, fs, _, l - 1, p, rfl, rs1, hzf, fun H2 le2 rs2 dk => ?_⟩
    replace le2 := le1.trans le2
    have hg2 : DGet H2 lt9 (.str op.str) (some (.int 0)) := by
      cases op with
      | get => exact DGet.k (k := .inr "get") (dk _ _ ht9)
      | put => exact DGet.k (k := .inr "put") (dk _ _ ht9)
    clear ra9 ho9 hq9 hpo9 ht9 dk hg le1 rs1
    obtain ⟨dx2, pdx2, lp2, lq2, lf2, lt2, lo2, px2, vb2, vh2, vfs2, vops2, pre2, kk2, ra2⟩ := id rs2
    have ho2 := ra2.obj
    have hq2' := ra2.pcs
    have hpo2 := ra2.po
    have hf2 := ra2.fr
    have low2 := ra2.low
    have rh2 := ra2.rh
    dsimp only at ho2 hq2' hpo2 low2 rh2
    obtain ⟨p0, pd0, l0, t0, vs0, rfl, _⟩ := low2
    have hq2 : H2 lq2 = some (.lst [.ref p0, .ref px2]) := hq2'
    obtain ⟨ah, _, rfl, hah, _, _, rfl, rfl, _, _, rfl, rfl, vbb, _, rfl, rb1, rfl⟩ := id rh2
    obtain ⟨t1, t2, hcl, ht1, ht2⟩ := hc.cl
    have hcl2 := ra2.sm _ _ hcl
    have hg3 : ∃ tt, DGet H2 c.cl (.str op.str) (some (.ref tt)) ∧ SqT K H2 tt [.int (c.at op), .bl false] := by
      cases op with
      | get => exact ⟨t1, DGet.k (k := .inr "get") hcl2, Le.same ra2.sm _ _ ht1⟩
      | put => exact ⟨t2, DGet.k (k := .inr "put") hcl2, Le.same ra2.sm _ _ ht2⟩
    obtain ⟨tt, hg3, htt⟩ := hg3
    clear hq2'
    walk_at "w"
    refine ⟨lt9, _, rfl, hg2, ?_⟩
    walk_at "w"
    refine ⟨c.cl, _, rfl, hg3, ?_⟩
    walk_at "w"
    rename_i q1 hq1
    refine ⟨q1, rfl, ⟨_, sql_of upd_same⟩, fun Dl hD => lc_one (x := .ref px2) (sql_of (get_new upd_same hD)) ?_⟩
    walk_at "w"
    refine ⟨rfl, ?_⟩
    have hDl0 : H2 Dl = none := free_new hD
    walk_at "w"
    refine ⟨px2, pdx2, lf2, lt2, 1, .ref ah, _, rfl, by walk_at "lk", by walk_at "lk", fun H3 q t s3 fq ft e1 e2 => ?_⟩
    have hfq : H2 q = none := free_new (free_new fq)
    have hDl3 : H3 Dl = some (.lst []) := s3 _ _ upd_same
    have hq13 : H3 q1 = some (.lst [.ref px2]) := s3 _ _ (get_new upd_same hD)
    have s23 : Same H2 H3 := fun b o e => s3 _ _ (get_new (get_new e hq1) hD)
    refine ⟨[], hDl3, by decide, sql_of (get_ne hq13 (ne_of_none upd_same hD)), ?_⟩
    generalize hH4 : upd H3 Dl (HO.lst ([] ++ [V.ref q])) = H4
    have s24 : Same H2 H4 := by
      rw [← hH4]
      exact Same.mut s23 hDl0
    have hDl4 : H4 Dl = some (.lst [.ref q]) := by
      rw [← hH4]
      exact upd_same
    have nqD : q ≠ Dl := fun e => by
      rw [e] at fq
      rw [upd_same] at fq
      cases fq
    have ntD : t ≠ Dl := fun e => by
      rw [e] at ft
      rw [upd_same] at ft
      cases ft
    have hq4 : H4 q = some (.tup [.int 1, .ref ah, .ref t, .int 0]) := by
      rw [← hH4]
      exact get_ne e1 nqD
    have ht4 : H4 t = some (.tup vfs2.reverse) := by
      rw [← hH4]
      exact get_ne e2 ntD
    have ra4 := ra2.same s24
    have ho4 := ra4.obj
    have hq24 := s24 _ _ hq2
    have hah4 := Le.same s24 _ _ hah
    have le4 : Le K H H4 := le2.after s24
    have rf4 := ra4.rf
    have rh4 := ra4.rh
    dsimp only at ho4 rf4 rh4
    clear hH4 s3 e1 e2 hDl3 hq13 s23 hq1 hD hDl0 hfq fq ft hpo2 hq2 ho2 hf2 rs2 hg2 hg3 htt hcl2
    walk_at "w"
    rename_i qa hqa qb hqb qc hqc qd hqd qe hqe
    have nqx : qc ≠ x := (ne_of_none (get_new (get_new ho4 hqa) hqb) hqc).symm
    refine w_genS (F := fun HH => RnS K H0 c HH x ⟨a0, i0, b0, os, .non, fs0, none, l - 1, p⟩ ∧ Rep K HH (.tup [rkept (rHd j c.cl b) (rF a0 i0 b0 os :: fs), .tup [v, b]]) (.ref qe) ∧ Le K H HH) ⟨?_, ?_, ?_⟩ ?_
    · exact RnS.same (Same.new (Same.new (Same.refl _) hqd) hqe) (RnAt.cut (ra4.same (Same.new (Same.new (Same.refl _) hqa) hqb)) rfl (lq' := qc) (kk' := kk2 + 1) upd_same (fun b o nb nq e => get_ne (get_ne (get_new e hqc) nb) nb) (get_ne (get_ne upd_same nqx) nqx) (.inr hqc))
    · have rB := rb1.mono (Le.same s24)
      have rV := rv1.mono le4
      have rK := rf4.reverse
      walk_at "rp"
    · walk_at "le"
    clear hqa hqb hqc hqd hqe ra4 ho4 hq24 hah4 rf4 rh4 hq4 ht4 hDl4
    rintro H5 ⟨rs5, rk5, le5⟩
    obtain ⟨dx5, pdx5, lp5, lq5, lf5, lt5, lo5, px5, vb5, vh5, vfs5, vops5, pre5, kk5, ra5⟩ := rs5
    have ho5 := ra5.obj
    dsimp only at ho5
    have hbl := ra5.sm _ _ hc.bl
    have hbi := bl_at hc hb
    refine ⟨x, dx5, c.bl, _, _, _, _, _, rfl, ho5, rfl, rfl, hbl, hbi, fun H6 lo6 flo e4 e5 kp6 => ?_⟩
    walk_at "w"
    have le6 : Le K H5 H6 := Le.of fun b u e zz => kp6 _ _ (ne_of e ho5 (fun qq => by rcases zz with ⟨_, rfl⟩ | ⟨_, _, rfl⟩ <;> cases qq)) e
    exact k _ (le5.trans le6) (RnAt.toS (RnAt.ent ra5 (lo' := lo6) (vops' := []) (kk' := kk5) (vb' := .ref qe) (ve' := .non) rfl rfl rfl rfl e4 kp6 e5 flo rfl (rk5.mono le6)))

end
set_option maxRecDepth 100000
set_option maxHeartbeats 400000
section
variable {P : Program} {w : World} {K : PySem.W.Frag} {mg : Str → Option Value} {base : Heap}

abbrev nm_Runner_worked : List Str := ["self", "row", "value", "first"]
theorem sc_Runner_worked : FnScope nm_Runner_worked ["self", "row"] (defScope s_Runner_worked) := ⟨rfl, rfl, rfl, by decide +kernel, rfl, by decide +kernel, by decide +kernel⟩
theorem st_Runner_worked {a0 a1 : V} : L2.start nm_Runner_worked [a0, a1] = [some a0, some a1, none, none] := rfl

inductive RWork : D → D → D → D → Prop
  | pair {u v} : RWork (.tup [.str "pair"]) u v (.tup [.str "pair", u, v])
  | op {o n m} : CMul n m → RWork (.tup [.str "op", .str (Sg.str o)]) (vi n) (vi m) (mopd o n m)
inductive RMove : D → RO → RO → Prop
  | jump {n a i b os hd fs lo l p} : RMove (.tup [.str "jump", .int (n : Nat)]) ⟨a, i, b, os, hd, fs, lo, l, p⟩ ⟨a, n, b, os, hd, fs, lo, l, p⟩
  | unl {n k a i b os hd fs lo l p} : RMove (.tup [.str "unless", .int (n : Nat)]) ⟨a, i, b, vb k :: os, hd, fs, lo, l, p⟩ ⟨a, if k then i else n, b, os, hd, fs, lo, l, p⟩
  | bind {v a i b os hd fs lo l p} : RMove (.tup [.str "bind"]) ⟨a, i, b, v :: os, hd, fs, lo, l, p⟩ ⟨a, i, .tup [v, b], os, hd, fs, lo, l, p⟩
  | unbind {u a i b os hd fs lo l p} : RMove (.tup [.str "unbind"]) ⟨a, i, .tup [u, b], os, hd, fs, lo, l, p⟩ ⟨a, i, b, os, hd, fs, lo, l, p⟩
  | print {n a i b os hd fs lo l p} : p.length ≤ 1000 → RMove (.tup [.str "print"]) ⟨a, i, b, vi n :: os, hd, fs, lo, l, p⟩ ⟨a, i, b, os, hd, fs, lo, l, p ++ [n]⟩
def sp_Rn_worked (K : PySem.W.Frag) : Sp := fun vs H Q _ => ∃ (H0 : Hp) (c : Cd) (x : Addr) (d u v r : D) (ur : V) (a : Addr) (i : Nat) (b : D) (os : List D) (hd : D) (fs : List D) (lw : Option (List D)) (l : Int) (p : List Int) (dx pdx lp lq lf lt lo px : Addr) (vb vh : V) (vfs vops pre : List V) (kk : Int),
  vs = [.ref x, ur] ∧ RnAt K H0 c H x ⟨a, i, b, v :: u :: os, hd, fs, lw, l, p⟩ dx pdx lp lq lf lt lo px vb vh .non vfs vops pre kk ∧ RWork d u v r ∧ Rep K H d ur ∧
  ∀ H' uu vops', Le K H H' → RnAt K H0 c H' x ⟨a, i, b, os, hd, fs, lw, l, p⟩ dx pdx lp lq lf lt lo px vb vh .non vfs vops' pre kk → Rep K H' r uu → Q uu H'
def sp_Rn_move (K : PySem.W.Frag) : Sp := fun vs H Q _ => ∃ (H0 : Hp) (c : Cd) (x : Addr) (d : D) (ur : V) (s t : RO), vs = [.ref x, ur] ∧ RnS K H0 c H x s ∧ RMove d s t ∧ Rep K H d ur ∧ ∀ H', Le K H H' → RnS K H0 c H' x t → Q .non H'
theorem ok_Rn_worked (T : Txt w K mg) (c_calculated : C8.Cal P w K mg base 1 "calculated" (sp_calculated K) []) : C8.Met P w K mg base 2 (He.ga K "Runner") "worked" (sp_Rn_worked K) [] := by
  refine metD (k := 1) T.cRunner T.mRunner_worked T.f_Runner_worked sc_Runner_worked (fun _ _ _ _ _ _ us hl => match us, hl with | [_, _], _ => rfl) (fun vs H Q Ex h => ?_) (fun cdv A outer s H vs Q Ex hr h => ⟨_, (pss_cons (ps_set (i := 2) sc_Runner_worked.nd rfl (by first | exact Or.inl rfl | exact Or.inr rfl) (pe_bm0 PySem.F.plainAttrs_list PySem.F.slot_list_pop PySem.F.type_list_pop mt_pop (pe_g T.cRunner T.nRunner_operands (pv 0)))) (pss_cons (ps_if (pt_cmpR op_eq (pe_ix ix_2 (pv 1) pe_int (fun _ _ => rfl)) pe_str (by rfl)) pss_never pss_nil) (pss_cons (ps_if (pt_cmpR op_eq (pe_ix ix_2 (pv 1) pe_int (fun _ _ => rfl)) pe_str (by rfl)) pss_never pss_nil) (pss_cons (ps_if (pt_cmpR op_eq (pe_ix ix_2 (pv 1) pe_int (fun _ _ => rfl)) pe_str (by rfl)) pss_never pss_nil) (pss_cons (ps_set (i := 3) sc_Runner_worked.nd rfl (by first | exact Or.inl rfl | exact Or.inr rfl) (pe_bm0 PySem.F.plainAttrs_list PySem.F.slot_list_pop PySem.F.type_list_pop mt_pop (pe_g T.cRunner T.nRunner_operands (pv 0)))) (pss_cons (ps_if (pt_cmpR op_eq (pe_ix ix_2 (pv 1) pe_int (fun _ _ => rfl)) pe_str (by rfl)) (pss_one (ps_ret (pe_tup (pa_cons pe_str (pa_cons (pv 3) (pa_cons (pv 2) pa_nil)))))) pss_nil) (pss_one (ps_ret (C8.pe_c c_calculated hr (by omega) (by rfl) (pa_cons (pe_ix ix_2 (pv 1) pe_int (fun _ _ => rfl)) (pa_cons (pe_ix ix_2 (pv 3) pe_int (fun _ _ => rfl)) (pa_cons (pe_ix ix_2 (pv 2) pe_int (fun _ _ => rfl)) pa_nil)))))))))))), ?_⟩)
  · obtain ⟨H0, c, x, d, u, v, r, ur, a, i, b, os, hd, fs, lw, l, p, dx, pdx, lp, lq, lf, lt, lo, px, vb, vh, vfs, vops, pre, kk, rfl, _⟩ := h
    rfl
  · obtain ⟨H0, c, x, d, u, v, r, ur, a, i, b, os, hd, fs, lw, l, p, dx, pdx, lp, lq, lf, lt, lo, px, vb, vh, vfs, vops, pre, kk, rfl, ra, hb, rd, k⟩ := h
    rw [st_Runner_worked]
    have ho := ra.obj
    have hop := ra.op
    have ro := ra.ro
    dsimp only at ho ro
    obtain ⟨va, vops1, rfl, rv1, vf, vops2, rfl, rf1, ro2⟩ := ro
    have ra1 := RnAt.ops (s' := ⟨a, i, b, os, hd, fs, lw, l, p⟩) (vops' := vops2) (RnAt.ops (s' := ⟨a, i, b, u :: os, hd, fs, lw, l, p⟩) (vops' := vf :: vops2) ra rfl ⟨_, _, rfl, rf1, ro2⟩) rfl (ro2.mono (Le.lst Le.refl hop))
    have leA : Le K H (upd (upd H lo (.lst (vf :: vops2).reverse)) lo (.lst vops2.reverse)) := Le.lst (Le.lst Le.refl hop) upd_same
    cases hb with
    | pair =>
      obtain ⟨ar, _, rfl, har, _, _, rfl, rfl, rfl⟩ := rd
      walk_at "w"
      exact k _ _ _ (by walk_at "le") (ra1.same (by walk_at "sm")) (by walk_at "rp")
    | op hm =>
      obtain ⟨ar, _, rfl, har, _, _, rfl, rfl, _, _, rfl, rfl, rfl⟩ := rd
      obtain ⟨af, _, rfl, haf, _, _, rfl, rfl, _, _, rfl, rfl, rfl⟩ := rf1
      obtain ⟨av, _, rfl, hav, _, _, rfl, rfl, _, _, rfl, rfl, rfl⟩ := rv1
      walk_at "w"
      refine ⟨_, _, _, rfl, hm, fun H1 u1 s1 q1 => ?_⟩
      walk_at "w"
      exact k _ _ _ (by walk_at "le") (ra1.same s1) q1

abbrev nm_Runner_move : List Str := ["self", "row", "value"]
theorem sc_Runner_move : FnScope nm_Runner_move ["self", "row"] (defScope s_Runner_move) := ⟨rfl, rfl, rfl, by decide +kernel, rfl, by decide +kernel, by decide +kernel⟩
theorem st_Runner_move {a0 a1 : V} : L2.start nm_Runner_move [a0, a1] = [some a0, some a1, none] := rfl

theorem ok_Rn_move (T : Txt w K mg) : C8.Met P w K mg base 1 (He.ga K "Runner") "move" (sp_Rn_move K) [] := by
  refine metD (k := 0) T.cRunner T.mRunner_move T.f_Runner_move sc_Runner_move (fun _ _ _ _ _ _ us hl => match us, hl with | [_, _], _ => rfl) (fun vs H Q Ex h => ?_) (fun cdv A outer s H vs Q Ex hr h => ⟨_, (pss_one (ps_if (pt_cmpR op_eq (pe_ix ix_2 (pv 1) pe_int (fun _ _ => rfl)) pe_str (by rfl)) (pss_one (ps_s T.cRunner T.nRunner_at (pv 0) (pe_ix ix_2 (pv 1) pe_int (fun _ _ => rfl)))) (pss_one (ps_if (pt_cmpR op_eq (pe_ix ix_2 (pv 1) pe_int (fun _ _ => rfl)) pe_str (by rfl)) (pss_one (ps_s T.cRunner T.nRunner_bindings (pv 0) (pe_ix ix_2 (pe_g T.cRunner T.nRunner_bindings (pv 0)) pe_int (fun _ _ => rfl)))) (pss_cons (ps_set (i := 2) sc_Runner_move.nd rfl (by first | exact Or.inl rfl | exact Or.inr rfl) (pe_bm0 PySem.F.plainAttrs_list PySem.F.slot_list_pop PySem.F.type_list_pop mt_pop (pe_g T.cRunner T.nRunner_operands (pv 0)))) (pss_one (ps_if (pt_cmpR op_eq (pe_ix ix_2 (pv 1) pe_int (fun _ _ => rfl)) pe_str (by rfl)) (pss_one (ps_s T.cRunner T.nRunner_bindings (pv 0) (pe_tup (pa_cons (pv 2) (pa_cons (pe_g T.cRunner T.nRunner_bindings (pv 0)) pa_nil))))) (pss_one (ps_if (pt_cmpR op_eq (pe_ix ix_2 (pv 1) pe_int (fun _ _ => rfl)) pe_str (by rfl)) (pss_one (ps_expr (pe_bm PySem.F.plainAttrs_list PySem.F.slot_list_append PySem.F.type_list_append mt_append (pe_g T.cRunner T.nRunner_prints (pv 0)) (pa_cons (pe_ix ix_2 (pv 2) pe_int (fun _ _ => rfl)) pa_nil)))) (pss_one (ps_if (pt_not (pt_tru (pe_ix ix_2 (pv 2) pe_int (fun _ _ => rfl)))) (pss_one (ps_s T.cRunner T.nRunner_at (pv 0) (pe_ix ix_2 (pv 1) pe_int (fun _ _ => rfl)))) pss_nil))))))))))), ?_⟩)
  · obtain ⟨H0, c, x, d, ur, s, t, rfl, _⟩ := h
    rfl
  · obtain ⟨H0, c, x, d, ur, s, t, rfl, ⟨dx, pdx, lp, lq, lf, lt, lo, px, vb, vh, vfs, vops, pre, kk, ra⟩, hb, rd, k⟩ := h
    rw [st_Runner_move]
    have ho := ra.obj
    have hop := ra.op
    have hp := ra.pr
    have ro := ra.ro
    have rb := ra.rb
    cases hb with
    | @jump n a i b os hd fs lw l p =>
      dsimp only at ho ro rb hp
      obtain ⟨ar, _, rfl, har, _, _, rfl, rfl, _, _, rfl, rfl, rfl⟩ := rd
      walk_at "w"
      exact k _ (by walk_at "le") (RnAt.toS (RnAt.fld ra (s' := ⟨a, n, b, os, hd, fs, lw, l, p⟩) (ve' := .non) (kk' := kk) rfl rfl rfl rfl rfl rb))
    | @unl n kb a i b os hd fs lw l p =>
      dsimp only at ho ro rb hp
      obtain ⟨ar, _, rfl, har, _, _, rfl, rfl, _, _, rfl, rfl, rfl⟩ := rd
      obtain ⟨va, vops1, rfl, rv1, ro2⟩ := ro
      have ra1 := RnAt.ops (s' := ⟨a, i, b, os, hd, fs, lw, l, p⟩) (vops' := vops1) ra rfl ro2
      have ho1 := ra1.obj
      dsimp only at ho1
      obtain ⟨av, _, rfl, hav, _, _, rfl, rfl, _, _, rfl, rfl, rfl⟩ := rv1
      cases kb
      · walk_at "w"
        exact k _ (by walk_at "le") (RnAt.toS (RnAt.fld ra1 (s' := ⟨a, n, b, os, hd, fs, lw, l, p⟩) (ve' := .non) (kk' := kk) rfl rfl rfl rfl rfl ra1.rb))
      · walk_at "w"
        exact k _ (by walk_at "le") (RnAt.toS ra1)
    | @bind v a i b os hd fs lw l p =>
      dsimp only at ho ro rb hp
      obtain ⟨ar, _, rfl, har, _, _, rfl, rfl, rfl⟩ := rd
      obtain ⟨va, vops1, rfl, rv1, ro2⟩ := ro
      have ra1 := RnAt.ops (s' := ⟨a, i, b, os, hd, fs, lw, l, p⟩) (vops' := vops1) ra rfl ro2
      have ho1 := ra1.obj
      dsimp only at ho1
      walk_at "w"
      rename_i q hq
      refine k _ (by walk_at "le") (RnAt.toS (RnAt.fld (ra1.same (Same.new (Same.refl _) hq)) (s' := ⟨a, i, .tup [v, b], os, hd, fs, lw, l, p⟩) (ve' := .non) (kk' := kk) (vb' := .ref q) rfl rfl rfl rfl rfl ?_))
      have le1 : Le K H (upd H lo (HO.lst vops1.reverse)) := Le.lst Le.refl hop
      exact Rep.mk (sqt_of upd_same) (Reps.cons ((rv1.mono le1).mono (Le.new Le.refl hq)) (Reps.cons ((rb.mono le1).mono (Le.new Le.refl hq)) rfl))
    | @unbind u a i b os hd fs lw l p =>
      dsimp only at ho ro rb hp
      obtain ⟨ar, _, rfl, har, _, _, rfl, rfl, rfl⟩ := rd
      obtain ⟨ab, _, rfl, hab, _, _, rfl, ru, _, _, rfl, rb2, rfl⟩ := id rb
      walk_at "w"
      exact k _ (by walk_at "le") (RnAt.toS (RnAt.fld ra (s' := ⟨a, i, b, os, hd, fs, lw, l, p⟩) (ve' := .non) (kk' := kk) rfl rfl rfl rfl rfl rb2))
    | @print n a i b os hd fs lw l p hz =>
      dsimp only at ho ro rb hp
      obtain ⟨ar, _, rfl, har, _, _, rfl, rfl, rfl⟩ := rd
      obtain ⟨va, vops1, rfl, rv1, ro2⟩ := ro
      have ra1 := RnAt.ops (s' := ⟨a, i, b, os, hd, fs, lw, l, p⟩) (vops' := vops1) ra rfl ro2
      have ho1 := ra1.obj
      dsimp only at ho1
      obtain ⟨av, _, rfl, hav, _, _, rfl, rfl, _, _, rfl, rfl, rfl⟩ := rv1
      have zp : (List.map V.int p).length ≤ 1000 := by rw [List.length_map]; exact hz
      have n6 := ra.n6
      have n6' := ra.n6.symm
      walk_at "w"
      have e := RnAt.toS (RnAt.prs ra1 (s' := ⟨a, i, b, os, hd, fs, lw, l, p ++ [n]⟩) rfl)
      dsimp only at e
      rw [List.map_append] at e
      exact k _ (by walk_at "le") e

end
set_option maxRecDepth 100000
set_option maxHeartbeats 400000
section
variable {P : Program} {w : World} {K : PySem.W.Frag} {mg : Str → Option Value} {base : Heap}

abbrev nm_Runner_step : List Str := ["self", "row", "head", "bindings", "_"]
theorem sc_Runner_step : FnScope nm_Runner_step ["self"] (defScope s_Runner_step) := ⟨rfl, rfl, rfl, by decide +kernel, rfl, by decide +kernel, by decide +kernel⟩
theorem st_Runner_step {a0 : V} : L2.start nm_Runner_step [a0] = [some a0, none, none, none, none] := rfl

def sp_Rn_step (K : PySem.W.Frag) : Sp := fun vs H Q _ => ∃ (H0 : Hp) (c : Cd) (x : Addr) (a : Addr) (i : Nat) (b : D) (os : List D) (hd : D) (fs : List D) (lw : Option (List D)) (l : Int) (p : List Int) (rows : List D) (d : D), vs = [.ref x] ∧ CdAt K H0 c ∧ RnS K H0 c H x ⟨a, i, b, os, hd, fs, lw, l, p⟩ ∧ (a, rows) ∈ c.bs ∧ rows[i]? = some d ∧
  ((∃ t, RRow c d ⟨a, i + 1, b, os, hd, fs, lw, l, p⟩ t ∧ ∀ H', Le K H H' → RnS K H0 c H' x t → Q .non H') ∨ ∃ n m os', d = .tup [.str "return"] ∧ os = .tup [.str "pair", vi n, vi m] :: os' ∧ hd = .non ∧ fs = [] ∧ lw = none ∧ ∀ H', Le K H H' → RnE K H0 c H' x n m p → Q .non H')
theorem ok_Rn_step (T : Txt w K mg) (m_Runner_call : C8.Met P w K mg base 4 (He.ga K "Runner") "call" (sp_Rn_call K) []) (m_Runner_deliver : C8.Met P w K mg base 3 (He.ga K "Runner") "deliver" (sp_Rn_deliver K) []) (m_Runner_ask : C8.Met P w K mg base 2 (He.ga K "Runner") "ask" (sp_Rn_ask K) []) (m_Runner_handle : C8.Met P w K mg base 3 (He.ga K "Runner") "handle" (sp_Rn_handle K) []) (m_Runner_move : C8.Met P w K mg base 1 (He.ga K "Runner") "move" (sp_Rn_move K) []) (m_Runner_worked : C8.Met P w K mg base 2 (He.ga K "Runner") "worked" (sp_Rn_worked K) []) : C8.Met P w K mg base 5 (He.ga K "Runner") "step" (sp_Rn_step K) [] := by
  refine metD (k := 4) T.cRunner T.mRunner_step T.f_Runner_step sc_Runner_step (fun _ _ _ _ _ _ us hl => match us, hl with | [_], _ => rfl) (fun vs H Q Ex h => ?_) (fun cdv A outer s H vs Q Ex hr h => ⟨_, (pss_cons (ps_set (i := 1) sc_Runner_step.nd rfl (by first | exact Or.inl rfl | exact Or.inr rfl) (pe_ix ix_2 (pe_g T.cRunner T.nRunner_rows (pv 0)) (pe_g T.cRunner T.nRunner_at (pv 0)) (fun _ _ => rfl))) (pss_cons (ps_a T.cRunner T.nRunner_at in_addI (pv 0) pe_int) (pss_cons (ps_set (i := 2) sc_Runner_step.nd rfl (by first | exact Or.inl rfl | exact Or.inr rfl) (pe_ix ix_2 (pv 1) pe_int (fun _ _ => rfl))) (pss_one (ps_if (pt_cmpR op_in_seq (pv 2) (pe_tup (pa_cons pe_str (pa_cons pe_str pa_nil))) (by rfl)) (pss_one (ps_expr (pe_bm PySem.F.plainAttrs_list PySem.F.slot_list_append PySem.F.type_list_append mt_append (pe_g T.cRunner T.nRunner_operands (pv 0)) (pa_cons (pv 1) pa_nil)))) (pss_one (ps_if (pt_cmpR op_eq (pv 2) pe_str (by rfl)) (pss_one (ps_expr (pe_bm PySem.F.plainAttrs_list PySem.F.slot_list_append PySem.F.type_list_append mt_append (pe_g T.cRunner T.nRunner_operands (pv 0)) (pa_cons (pe_tup (pa_cons pe_str (pa_cons (pe_ix ix_2 (pv 1) pe_int (fun _ _ => rfl)) pa_nil))) pa_nil)))) (pss_one (ps_if (pt_cmpR op_eq (pv 2) pe_str (by rfl)) (pss_cons (ps_set (i := 3) sc_Runner_step.nd rfl (by first | exact Or.inl rfl | exact Or.inr rfl) (pe_g T.cRunner T.nRunner_bindings (pv 0))) (pss_cons (ps_for PassesOwn.never rfl (pi_range1 (by rfl) T.z_range (pa_cons (pe_ix ix_2 (pv 1) pe_int (fun _ _ => rfl)) pa_nil)) (pg_name (i := 4) sc_Runner_step.nd rfl (by first | exact Or.inl rfl | exact Or.inr rfl)) (pss_one (ps_set (i := 3) sc_Runner_step.nd rfl (by first | exact Or.inl rfl | exact Or.inr rfl) (pe_ix ix_2 (pv 3) pe_int (fun _ _ => rfl))))) (pss_one (ps_expr (pe_bm PySem.F.plainAttrs_list PySem.F.slot_list_append PySem.F.type_list_append mt_append (pe_g T.cRunner T.nRunner_operands (pv 0)) (pa_cons (pe_ix ix_2 (pv 3) pe_int (fun _ _ => rfl)) pa_nil)))))) (pss_one (ps_if (pt_cmpR op_eq (pv 2) pe_str (by rfl)) (pss_one (ps_expr (pe_bm PySem.F.plainAttrs_list PySem.F.slot_list_append PySem.F.type_list_append mt_append (pe_g T.cRunner T.nRunner_operands (pv 0)) (pa_cons (pe_tup (pa_cons pe_str (pa_cons (pe_ix ix_2 (pv 1) pe_int (fun _ _ => rfl)) (pa_cons (pe_ix ix_2 (pv 1) pe_int (fun _ _ => rfl)) (pa_cons (pe_g T.cRunner T.nRunner_bindings (pv 0)) pa_nil))))) pa_nil)))) (pss_one (ps_if (pt_cmpR op_in_seq (pv 2) (pe_tup (pa_cons pe_str (pa_cons pe_str pa_nil))) (by rfl)) (pss_one (ps_expr (C8.pe_mt m_Runner_call hr (by omega) (pv 0) (pa_cons (pe_cmpR op_eq (pv 2) pe_str (by rfl)) pa_nil)))) (pss_one (ps_if (pt_cmpR op_eq (pv 2) pe_str (by rfl)) (pss_one (ps_expr (C8.pe_mt m_Runner_deliver hr (by omega) (pv 0) (pa_cons (pe_bm0 PySem.F.plainAttrs_list PySem.F.slot_list_pop PySem.F.type_list_pop mt_pop (pe_g T.cRunner T.nRunner_operands (pv 0))) pa_nil)))) (pss_one (ps_if (pt_cmpR op_eq (pv 2) pe_str (by rfl)) (pss_one (ps_expr (C8.pe_mt m_Runner_ask hr (by omega) (pv 0) (pa_cons (pe_ix ix_2 (pv 1) pe_int (fun _ _ => rfl)) pa_nil)))) (pss_one (ps_if (pt_cmpR op_eq (pv 2) pe_str (by rfl)) (pss_one (ps_expr (C8.pe_mt m_Runner_handle hr (by omega) (pv 0) (pa_cons (pv 1) pa_nil)))) (pss_one (ps_if (pt_cmpR op_in_seq (pv 2) (pe_tup (pa_cons pe_str (pa_cons pe_str (pa_cons pe_str (pa_cons pe_str (pa_cons pe_str pa_nil)))))) (by rfl)) (pss_one (ps_expr (C8.pe_mt m_Runner_move hr (by omega) (pv 0) (pa_cons (pv 1) pa_nil)))) (pss_one (ps_expr (pe_bm PySem.F.plainAttrs_list PySem.F.slot_list_append PySem.F.type_list_append mt_append (pe_g T.cRunner T.nRunner_operands (pv 0)) (pa_cons (C8.pe_mt m_Runner_worked hr (by omega) (pv 0) (pa_cons (pv 1) pa_nil)) pa_nil))))))))))))))))))))))))), ?_⟩)
  · obtain ⟨H0, c, x, a, i, b, os, hd, fs, lw, l, p, rows, d, rfl, _⟩ := h
    rfl
  · obtain ⟨H0, c, x, a, i, b, os, hd, fs, lw, l, p, rows, d, rfl, hc, ⟨dx, pdx, lp, lq, lf, lt, lo_, px, vb, vh, vfs, vops, pre, kk, ra⟩, hm, hi, hb⟩ := h
    rw [st_Runner_step]
    have ho := ra.obj
    have hop := ra.op
    have rb := ra.rb
    have ro := ra.ro
    obtain ⟨rvs, hrv, rrv⟩ := hc.bs _ hm
    obtain ⟨ur, hur, rd⟩ := rrv.at hi
    have hrv1 := ra.sm _ _ hrv
    have hat := atI_nat hur
    replace rd := rd.mono (Le.same ra.sm)
    dsimp only at ho hrv1
    have ra1 := RnAt.fld ra (s' := ⟨a, i + 1, b, os, hd, fs, lw, l, p⟩) (ve' := .non) (kk' := kk) rfl rfl rfl rfl rfl ra.rb
    dsimp only at ra1
    have ei : ((i + 1 : Nat) : Int) = (i : Int) + 1 := rfl
    rw [ei] at ra1
    rcases hb with ⟨t, hb, k⟩ | ⟨n, m, os', rfl, rfl, rfl, rfl, rfl, k⟩
    · cases hb with
      | @int n a i b os hd fs lo l p hz =>
        obtain ⟨ar, _, rfl, har, _, _, rfl, rfl, _, _, rfl, rfl, rfl⟩ := id rd
        dsimp only at ho ra1 rb ro
        have zo : vops.length ≤ 100000 := by rw [ro.length]; omega
        walk_at "w"
        rename_i q hq
        refine k _ (by walk_at "le") (RnAt.toS (RnAt.ops (RnAt.same ra1 (H' := _) ?_) rfl ?_))
        · walk_at "sm"
        · refine Reps.cons ?_ (ro.mono (by walk_at "le"))
          exact rd.mono (by walk_at "le")
      | @unit a i b os hd fs lo l p hz =>
        obtain ⟨ar, _, rfl, har, _, _, rfl, rfl, rfl⟩ := id rd
        dsimp only at ho ra1 rb ro
        have zo : vops.length ≤ 100000 := by rw [ro.length]; omega
        walk_at "w"
        rename_i q hq
        refine k _ (by walk_at "le") (RnAt.toS (RnAt.ops (RnAt.same ra1 (H' := _) ?_) rfl ?_))
        · walk_at "sm"
        · refine Reps.cons ?_ (ro.mono (by walk_at "le"))
          exact rd.mono (by walk_at "le")
      | @load n v a i b os hd fs lo l p hn hlk hz =>
        obtain ⟨ar, _, rfl, har, _, _, rfl, rfl, _, _, rfl, rfl, rfl⟩ := id rd
        dsimp only at ho ra1 rb ro
        have zo : vops.length ≤ 100000 := by rw [ro.length]; omega
        walk_at "w"
        rename_i q hq
        refine ⟨n, rfl, by omega, by omega, for_range (fun k σ H' => Le K H H' ∧ RnAt K H0 c H' x ⟨a, i + 1, b, os, hd, fs, lw, l, p⟩ dx pdx lp lq lf lt lo_ px vb vh .non vfs vops pre kk ∧ ∃ bk vk v4, σ = [some (.ref x), some (.ref ar), some (.str "load"), some vk, v4] ∧ Rep K H' bk vk ∧ LookR (n - k) bk v) ⟨by walk_at "le", RnAt.same ra1 (by walk_at "sm"), _, _, _, rfl, rb.mono (by walk_at "le"), hlk⟩ ?_ ?_⟩
        · rintro k1 σ H' hk ⟨le1, ra2, bk, vk, v4, rfl, rk, hl1⟩
          have e1 : n - k1 = (n - (k1 + 1)) + 1 := by omega
          rw [e1] at hl1
          cases hl1 with
          | there hl2 =>
            obtain ⟨ab, _, rfl, hab, _, _, rfl, r1, _, _, rfl, r2, rfl⟩ := rk
            walk_at "w"
            exact ⟨le1, ra2, _, _, _, rfl, r2, hl2⟩
        · rintro σ H' ⟨le1, ra2, bk, vk, v4, rfl, rk, hl1⟩
          rw [show n - (n : Int).toNat = 0 by omega] at hl1
          cases hl1 with
          | here =>
            obtain ⟨ab, _, rfl, hab, _, _, rfl, r1, _, _, rfl, r2, rfl⟩ := rk
            have ho2 := ra2.obj
            have hop2 := ra2.op
            dsimp only at ho2
            walk_at "w"
            exact k _ (by walk_at "le") (RnAt.toS (RnAt.ops ra2 rfl (Reps.cons r1 ra2.ro)))
      | @close n r a i b os hd fs lo l p hz =>
        obtain ⟨ar, _, rfl, har, _, _, rfl, rfl, _, _, rfl, rfl, _, _, rfl, rfl, rfl⟩ := id rd
        dsimp only at ho ra1 rb ro
        have zo : vops.length ≤ 100000 := by rw [ro.length]; omega
        walk_at "w"
        rename_i q hq
        refine k _ (by walk_at "le") (RnAt.toS (RnAt.ops (RnAt.same ra1 (H' := _) ?_) rfl ?_))
        · walk_at "sm"
        · refine Reps.cons ?_ (ro.mono (by walk_at "le"))
          walk_at "rp"
      | call hcl =>
        obtain ⟨ar, _, rfl, har, _, _, rfl, rfl, rfl⟩ := id rd
        dsimp only at ho ra1 rb ro
        walk_at "w"
        refine ⟨H0, c, x, _, _, _, rfl, hc, RnAt.toS (RnAt.same ra1 (by walk_at "sm")), hcl, fun H1 le1 rs1 => ?_⟩
        walk_at "w"
        exact k _ (Le.trans (by walk_at "le") le1) rs1
      | tail hcl =>
        obtain ⟨ar, _, rfl, har, _, _, rfl, rfl, rfl⟩ := id rd
        dsimp only at ho ra1 rb ro
        walk_at "w"
        refine ⟨H0, c, x, _, _, _, rfl, hc, RnAt.toS (RnAt.same ra1 (by walk_at "sm")), hcl, fun H1 le1 rs1 => ?_⟩
        walk_at "w"
        exact k _ (Le.trans (by walk_at "le") le1) rs1
      | @ret v a i b os hd fs lo l p t hd2 =>
        obtain ⟨ar, _, rfl, har, _, _, rfl, rfl, rfl⟩ := id rd
        dsimp only at ho ra1 rb ro
        obtain ⟨va, vops1, rfl, rv1, ro2⟩ := ro
        walk_at "w"
        refine ⟨H0, c, x, _, v, ⟨a, i + 1, b, os, hd, fs, lw, l, p⟩, rfl, hc, RnAt.toS (RnAt.ops (RnAt.same ra1 (H' := _) ?_) rfl (ro2.mono ?_)), rv1.mono ?_, .inl ⟨_, hd2, fun H1 le1 rs1 => ?_⟩⟩
        · walk_at "sm"
        · walk_at "le"
        · walk_at "le"
        walk_at "w"
        exact k _ (Le.trans (by walk_at "le") le1) rs1
      | @ask o2 v a i b os j b2 fs fs0 l p a2 rows2 hl hz hbs =>
        obtain ⟨ar, _, rfl, har, _, _, rfl, rfl, _, _, rfl, rfl, rfl⟩ := id rd
        dsimp only at ho ra1 rb ro
        walk_at "w"
        refine ⟨H0, c, x, o2, a, i + 1, b, v, os, j, b2, fs, fs0, l, p, a2, rows2, rfl, hc, RnAt.toS (RnAt.same ra1 (by walk_at "sm")), hl, hz, hbs, fun H1 le1 rs1 => ?_⟩
        walk_at "w"
        exact k _ (Le.trans (by walk_at "le") le1) rs1
      | @handle n m a i b os fs l p a2 rows2 hz hbs =>
        obtain ⟨ar, _, rfl, har, _, _, rfl, rfl, _, _, rfl, rfl, _, _, rfl, rfl, _, _, rfl, rfl, rfl⟩ := id rd
        dsimp only at ho ra1 rb ro
        walk_at "w"
        refine ⟨H0, c, x, a, i + 1, b, os, fs, l, p, n, m, a2, rows2, _, rfl, hc, RnAt.toS (RnAt.same ra1 (by walk_at "sm")), rd.mono (by walk_at "le"), hz, hbs, fun H1 le1 rs1 => ?_⟩
        walk_at "w"
        exact k _ (Le.trans (by walk_at "le") le1) rs1
      | @jump n a i b os hd fs lo l p =>
        obtain ⟨ar, _, rfl, har, _, _, rfl, rfl, _, _, rfl, rfl, rfl⟩ := id rd
        dsimp only at ho ra1 rb ro
        walk_at "w"
        refine ⟨H0, c, x, _, _, _, _, rfl, RnAt.toS (RnAt.same ra1 (by walk_at "sm")), RMove.jump, rd.mono (by walk_at "le"), fun H1 le1 rs1 => ?_⟩
        walk_at "w"
        exact k _ (Le.trans (by walk_at "le") le1) rs1
      | @«unless» n kb a i b os hd fs lo l p =>
        obtain ⟨ar, _, rfl, har, _, _, rfl, rfl, _, _, rfl, rfl, rfl⟩ := id rd
        dsimp only at ho ra1 rb ro
        walk_at "w"
        refine ⟨H0, c, x, _, _, _, _, rfl, RnAt.toS (RnAt.same ra1 (by walk_at "sm")), RMove.unl, rd.mono (by walk_at "le"), fun H1 le1 rs1 => ?_⟩
        walk_at "w"
        exact k _ (Le.trans (by walk_at "le") le1) rs1
      | @bind v a i b os hd fs lo l p =>
        obtain ⟨ar, _, rfl, har, _, _, rfl, rfl, rfl⟩ := id rd
        dsimp only at ho ra1 rb ro
        walk_at "w"
        refine ⟨H0, c, x, _, _, _, _, rfl, RnAt.toS (RnAt.same ra1 (by walk_at "sm")), RMove.bind, rd.mono (by walk_at "le"), fun H1 le1 rs1 => ?_⟩
        walk_at "w"
        exact k _ (Le.trans (by walk_at "le") le1) rs1
      | @unbind u a i b os hd fs lo l p =>
        obtain ⟨ar, _, rfl, har, _, _, rfl, rfl, rfl⟩ := id rd
        dsimp only at ho ra1 rb ro
        walk_at "w"
        refine ⟨H0, c, x, _, _, _, _, rfl, RnAt.toS (RnAt.same ra1 (by walk_at "sm")), RMove.unbind, rd.mono (by walk_at "le"), fun H1 le1 rs1 => ?_⟩
        walk_at "w"
        exact k _ (Le.trans (by walk_at "le") le1) rs1
      | @print n a i b os hd fs lo l p hz =>
        obtain ⟨ar, _, rfl, har, _, _, rfl, rfl, rfl⟩ := id rd
        dsimp only at ho ra1 rb ro
        walk_at "w"
        refine ⟨H0, c, x, _, _, _, _, rfl, RnAt.toS (RnAt.same ra1 (by walk_at "sm")), (RMove.print hz), rd.mono (by walk_at "le"), fun H1 le1 rs1 => ?_⟩
        walk_at "w"
        exact k _ (Le.trans (by walk_at "le") le1) rs1
      | @pair u v a i b os hd fs lo l p hz =>
        obtain ⟨ar, _, rfl, har, _, _, rfl, rfl, rfl⟩ := id rd
        dsimp only at ho ra1 rb ro
        walk_at "w"
        refine ⟨H0, c, x, _, u, v, .tup [.str "pair", u, v], _, a, i + 1, b, os, hd, fs, lw, l, p, dx, pdx, lp, lq, lf, lt, _, px, vb, vh, vfs, vops, pre, kk, rfl, RnAt.same ra1 (by walk_at "sm"), RWork.pair, rd.mono (by walk_at "le"), fun H1 uu vops2 le1 ra2 q2 => ?_⟩
        have hop2 := ra2.op
        have ro2 := ra2.ro
        have zo : vops2.length ≤ 100000 := by rw [ro2.length]; dsimp only; omega
        have le2 : Le K H H1 := Le.trans (by walk_at "le") le1
        walk_at "w"
        exact k _ (by walk_at "le") (RnAt.toS (RnAt.ops ra2 rfl (Reps.cons q2 ro2)))
      | @op o2 n m a i b os hd fs lo l p hz hm2 =>
        obtain ⟨ar, _, rfl, har, _, _, rfl, rfl, _, _, rfl, rfl, rfl⟩ := id rd
        dsimp only at ho ra1 rb ro
        walk_at "w"
        refine ⟨H0, c, x, _, vi n, vi m, mopd o2 n m, _, a, i + 1, b, os, hd, fs, lw, l, p, dx, pdx, lp, lq, lf, lt, _, px, vb, vh, vfs, vops, pre, kk, rfl, RnAt.same ra1 (by walk_at "sm"), RWork.op hm2, rd.mono (by walk_at "le"), fun H1 uu vops2 le1 ra2 q2 => ?_⟩
        have hop2 := ra2.op
        have ro2 := ra2.ro
        have zo : vops2.length ≤ 100000 := by rw [ro2.length]; dsimp only; omega
        have le2 : Le K H H1 := Le.trans (by walk_at "le") le1
        walk_at "w"
        exact k _ (by walk_at "le") (RnAt.toS (RnAt.ops ra2 rfl (Reps.cons q2 ro2)))
    
    · obtain ⟨ar, _, rfl, har, _, _, rfl, rfl, rfl⟩ := id rd
      dsimp only at ho ra1 rb ro
      obtain ⟨va, vops1, rfl, rv1, ro2⟩ := ro
      walk_at "w"
      refine ⟨H0, c, x, _, .tup [.str "pair", vi n, vi m], ⟨a, i + 1, b, os', .non, [], none, l, p⟩, rfl, hc, RnAt.toS (RnAt.ops (RnAt.same ra1 (H' := _) ?_) rfl (ro2.mono ?_)), rv1.mono ?_, .inr ⟨n, m, rfl, rfl, rfl, fun H1 le1 rs1 => ?_⟩⟩
      · walk_at "sm"
      · walk_at "le"
      · walk_at "le"
      walk_at "w"
      exact k _ (Le.trans (by walk_at "le") le1) rs1

end
set_option maxRecDepth 100000
set_option maxHeartbeats 400000
section
variable {P : Program} {w : World} {K : PySem.W.Frag} {mg : Str → Option Value} {base : Heap}

abbrev nm_run_kept : List Str := ["code", "steps", "runner"]
theorem sc_run_kept : FnScope nm_run_kept ["code", "steps"] (defScope s_run_kept) := ⟨rfl, rfl, rfl, by decide +kernel, rfl, by decide +kernel, by decide +kernel⟩
theorem st_run_kept {a0 a1 : V} : L2.start nm_run_kept [a0, a1] = [some a0, some a1, none] := rfl

def sp_run_kept (K : PySem.W.Frag) : Sp := fun vs H Q _ => ∃ (c : Cd) (y dy a : Addr) (rows : List D) (n i j : Int) (p : List Int) (N : Nat), vs = [.ref y, .int n] ∧ H y = some (.ins (He.ga K "Code") dy [("blocks", .ref c.bl)]) ∧ CdAt K H c ∧ c.bs[0]? = some (a, rows) ∧ RRun c N ⟨a, 0, .non, [], .non, [], none, n, []⟩ i j p ∧
  ∀ H' u kp, Le K H H' → Rep K H' (.tup [.tup (p.map D.int), endV i j, .int kp]) u → Q u H'
theorem ok_run_kept (T : Txt w K mg) (k_Runner : C8.Mak P w K mg base 3 "Runner" (He.ga K "Runner") (sp_Rn_init K) []) (m_Runner_step : C8.Met P w K mg base 5 (He.ga K "Runner") "step" (sp_Rn_step K) []) : C8.Cal P w K mg base 6 "run_kept" (sp_run_kept K) [] := by
  refine calD (k := 5) T.f_run_kept T.g_run_kept sc_run_kept (fun _ _ _ _ _ _ us hl => match us, hl with | [_, _], _ => rfl) (fun vs H Q Ex h => ?_) (fun cdv A outer s H vs Q Ex hr h => ⟨_, (pss_cons (ps_set (i := 2) sc_run_kept.nd rfl (by first | exact Or.inl rfl | exact Or.inr rfl) (C8.pe_mk k_Runner hr (by omega) (by rfl) (pa_cons (pv 0) (pa_cons (pv 1) pa_nil)))) (pss_cons (ps_while PassesOwn.never (pt_cmpR op_isNn (pe_g T.cRunner T.nRunner_end (pv 2)) pe_non (by rfl)) (pss_one (ps_expr (C8.pe_mt0 m_Runner_step hr (by omega) (pv 2))))) (pss_one (ps_ret (pe_tup (pa_cons (pe_callTy call_tupOf (by rfl) T.z_tuple (by decide +kernel) (pa_cons (pe_g T.cRunner T.nRunner_prints (pv 2)) pa_nil)) (pa_cons (pe_g T.cRunner T.nRunner_end (pv 2)) (pa_cons (pe_g T.cRunner T.nRunner_kept (pv 2)) pa_nil)))))))), ?_⟩)
  · obtain ⟨c, y, dy, a, rows, n, i, j, p, N, rfl, _⟩ := h
    rfl
  · obtain ⟨c, y, dy, a, rows, n, i, j, p, N, rfl, hy, hc, hb, hrun, k⟩ := h
    rw [st_run_kept]
    walk_at "w"
    intro x dx hx hdx nx
    have hx2 : upd H dx (.own x) x = none := by rw [upd_ne nx.symm]; exact hx
    refine ⟨H, c, x, dx, y, dy, a, rows, n, rfl, upd_same, by walk_at "lk", hc, by walk_at "sm", hx, hb, fun H1 le1 rs1 => ⟨rfl, ?_⟩⟩
    have le01 : Le K H H1 := Le.trans (by walk_at "le") le1
    walk_at "w"
    refine ⟨fun m σ H' => σ = [some (.ref y), some (.int n), some (.ref x)] ∧ Le K H H' ∧ ((∃ s k, RnS K H c H' x s ∧ RRun c k s i j p ∧ m = k + 1) ∨ (m = 0 ∧ RnE K H c H' x i j p)), ⟨N + 1, rfl, le01, .inl ⟨_, N, rs1, hrun, rfl⟩⟩, ?_⟩
    clear rs1 hrun le1 le01
    rintro m σ H2 ⟨rfl, le2, hs | ⟨rfl, he⟩⟩
    · obtain ⟨s, k', rs, hr', rfl⟩ := hs
      obtain ⟨dx2, pdx2, lp2, lq2, lf2, lt2, lo2, px2, vb2, vh2, vfs2, vops2, pre2, kk2, ra2⟩ := id rs
      have ho2 := ra2.obj
      walk_at "w"
      refine ⟨_, fun σ' H' h => h, ?_⟩
      walk_at "w"
      cases hr' with
      | fin hm hr =>
        refine ⟨H, c, x, _, _, _, _, _, _, _, _, _, _, _, rfl, hc, rs, hm, hr, .inr ⟨_, _, _, rfl, rfl, rfl, rfl, rfl, fun H3 le3 rE => ?_⟩⟩
        walk_at "w"
        exact ⟨0, by omega, rfl, le2.trans le3, .inr ⟨rfl, rE⟩⟩
      | step hm hr hrow hr2 =>
        refine ⟨H, c, x, _, _, _, _, _, _, _, _, _, _, _, rfl, hc, rs, hm, hr, .inl ⟨_, hrow, fun H3 le3 rs3 => ?_⟩⟩
        walk_at "w"
        exact ⟨_, by omega, rfl, le2.trans le3, .inl ⟨_, _, rs3, hr2, rfl⟩⟩
    · obtain ⟨s2, dx2, pdx2, lp2, lq2, lf2, lt2, lo2, px2, vb2, vh2, be, vfs2, vops2, pre2, kk2, ra2, re2, ep⟩ := he
      have ho2 := ra2.obj
      have hp2 := ra2.pr
      rw [ep] at hp2
      have ri : Reps K H2 (p.map D.int) (p.map V.int) := reps_ints p
      walk_at "w"
      refine k _ _ kk2 (by walk_at "le") ?_
      walk_at "rp"

abbrev nm_run_code : List Str := ["code", "steps", "prints", "end", "kept"]
theorem sc_run_code : FnScope nm_run_code ["code", "steps"] (defScope s_run_code) := ⟨rfl, rfl, rfl, by decide +kernel, rfl, by decide +kernel, by decide +kernel⟩
theorem st_run_code {a0 a1 : V} : L2.start nm_run_code [a0, a1] = [some a0, some a1, none, none, none] := rfl

def sp_run_code (K : PySem.W.Frag) : Sp := fun vs H Q _ => ∃ (c : Cd) (y dy a : Addr) (rows : List D) (n i j : Int) (p : List Int) (N : Nat), vs = [.ref y, .int n] ∧ H y = some (.ins (He.ga K "Code") dy [("blocks", .ref c.bl)]) ∧ CdAt K H c ∧ c.bs[0]? = some (a, rows) ∧ RRun c N ⟨a, 0, .non, [], .non, [], none, n, []⟩ i j p ∧
  ∀ H' u, Le K H H' → Rep K H' (outD i j p) u → Q u H'
theorem ok_run_code (T : Txt w K mg) (c_run_kept : C8.Cal P w K mg base 6 "run_kept" (sp_run_kept K) []) : C8.Cal P w K mg base 7 "run_code" (sp_run_code K) [] := by
  refine calD (k := 6) T.f_run_code T.g_run_code sc_run_code (fun _ _ _ _ _ _ us hl => match us, hl with | [_, _], _ => rfl) (fun vs H Q Ex h => ?_) (fun cdv A outer s H vs Q Ex hr h => ⟨_, (pss_cons (ps_asg (C8.pe_c c_run_kept hr (by omega) (by rfl) (pa_cons (pv 0) (pa_cons (pv 1) pa_nil))) (pg_tup rfl (pgs_cons (pg_name (i := 2) sc_run_code.nd rfl (by first | exact Or.inl rfl | exact Or.inr rfl)) (pgs_cons (pg_name (i := 3) sc_run_code.nd rfl (by first | exact Or.inl rfl | exact Or.inr rfl)) (pgs_cons (pg_name (i := 4) sc_run_code.nd rfl (by first | exact Or.inl rfl | exact Or.inr rfl)) pgs_nil))))) (pss_one (ps_ret (pe_tup (pa_cons (pv 2) (pa_cons (pv 3) pa_nil)))))), ?_⟩)
  · obtain ⟨c, y, dy, a, rows, n, i, j, p, N, rfl, _⟩ := h
    rfl
  · obtain ⟨c, y, dy, a, rows, n, i, j, p, N, rfl, hy, hc, hb, hrun, k⟩ := h
    rw [st_run_code]
    walk_at "w"
    refine ⟨c, y, dy, a, rows, n, i, j, p, N, rfl, hy, hc, hb, hrun, fun H1 u1 kp le1 r1 => ?_⟩
    obtain ⟨a1, _, rfl, ha, vq, _, rfl, rq, ve, _, rfl, re, vm, _, rfl, rm, rfl⟩ := r1
    walk_at "w"
    refine k _ _ (by walk_at "le") ?_
    unfold outD
    walk_at "rp"

end
set_option maxRecDepth 100000
set_option maxHeartbeats 400000
section
variable {P : Program} {w : World} {K : PySem.W.Frag} {mg : Str → Option Value} {base : Heap}

abbrev nm_Compiler_block : List Str := ["self", "expression", "names"]
theorem sc_Compiler_block : FnScope nm_Compiler_block ["self", "expression", "names"] (defScope s_Compiler_block) := ⟨rfl, rfl, rfl, by decide +kernel, rfl, by decide +kernel, by decide +kernel⟩
theorem st_Compiler_block {a0 a1 a2 : V} : L2.start nm_Compiler_block [a0, a1, a2] = [some a0, some a1, some a2] := rfl

def sp_block (K : PySem.W.Frag) : Sp := fun vs H Q _ => ∃ (x dx lb lu nl : Addr) (ve : V) (qvs : List V), vs = [.ref x, ve, .ref nl] ∧ H x = some (.ins (cCp K) dx (cpF lb lu)) ∧ H lu = some (.lst qvs) ∧ qvs.length ≤ 100000 ∧
  ∀ H' t, H t = none → (∀ b o, b ≠ lu → H b = some o → H' b = some o) → H' t = some (.tup [ve, .ref nl]) → H' lu = some (.lst (qvs ++ [.ref t])) → Q (.int (qvs.length : Nat)) H'
theorem ok_block (T : Txt w K mg) : C8.Met P w K mg base 1 (He.ga K "Compiler") "block" (sp_block K) [] := by
  refine metD (k := 0) T.cCompiler T.mCompiler_block T.f_Compiler_block sc_Compiler_block (fun _ _ _ _ _ _ us hl => match us, hl with | [_, _, _], _ => rfl) (fun vs H Q Ex h => ?_) (fun cdv A outer s H vs Q Ex hr h => ⟨_, (pss_cons (ps_expr (pe_bm PySem.F.plainAttrs_list PySem.F.slot_list_append PySem.F.type_list_append mt_append (pe_g T.cCompiler T.nCompiler_queue (pv 0)) (pa_cons (pe_tup (pa_cons (pv 1) (pa_cons (pv 2) pa_nil))) pa_nil))) (pss_one (ps_ret (pe_op op_sub (pe_callB call_len2 (by rfl) T.z_len PySem.boot_len (pa_cons (pe_g T.cCompiler T.nCompiler_queue (pv 0)) pa_nil)) pe_int)))), ?_⟩)
  · obtain ⟨x, dx, lb, lu, nl, ve, qvs, rfl, _⟩ := h
    rfl
  · obtain ⟨x, dx, lb, lu, nl, ve, qvs, rfl, ho, hu, hz, k⟩ := h
    rw [st_Compiler_block]
    walk_at "w"
    rename_i t ht
    have e : (((qvs ++ [V.ref t]).length : Nat) : Int) - 1 = (qvs.length : Nat) := by rw [List.length_append, List.length_singleton]; omega
    rw [e]
    have nt : t ≠ lu := (ne_of_none hu ht).symm
    exact k _ t ht (fun b o n e => by walk_at "lk") (get_ne upd_same nt) upd_same

end
set_option maxRecDepth 100000
set_option maxHeartbeats 400000
section
variable {P : Program} {w : World} {K : PySem.W.Frag} {mg : Str → Option Value} {base : Heap}

def spv (K : PySem.W.Frag) (Pe : E → Prop) (n : Nat) : Sp := fun vs H Q _ => ∃ (x dx lb lu l nl : Addr) (qvs vs0 : List V) (e : E) (ns : List Nm) (ve : V), vs = [.ref x, .ref l, ve, .ref nl] ∧ CvAt K H x dx lb lu l nl qvs vs0 ns ∧ Rep K H e.d ve ∧ (Pe e ∧ e.dep ≤ n) ∧ e.clo ns ∧ vs0.length + 3 * e.size ≤ 50000 ∧ qvs.length + e.size ≤ 50000 ∧ ns.length + 2 * e.dep ≤ 500 ∧
  ∀ H' rs qn, Kp H H' l lu → H' l = some (.lst (vs0 ++ rs)) → Reps K H' (e.val ns vs0.length qvs.length) rs → H' lu = some (.lst (qvs ++ qn)) → QReps K H' l lu (e.qs ns) qn → Q .non H'
abbrev sp_val (K : PySem.W.Frag) (n : Nat) : Sp := spv K (fun _ => True) n
abbrev sp_choice (K : PySem.W.Frag) (n : Nat) : Sp := spv K (fun e => ∃ a b c, e = .ite a b c) n
abbrev sp_simple (K : PySem.W.Frag) (n : Nat) : Sp := spv K (fun e => (∃ a b, e = .call a b ∨ e = .pair a b) ∨ (∃ s a b, e = .op s a b) ∨ ∃ o a, e = .ask o a) n
abbrev nm_Compiler_choice : List Str := ["self", "rows", "expression", "names", "unless", "jump"]
theorem sc_Compiler_choice : FnScope nm_Compiler_choice ["self", "rows", "expression", "names"] (defScope s_Compiler_choice) := ⟨rfl, rfl, rfl, by decide +kernel, rfl, by decide +kernel, by decide +kernel⟩
theorem st_Compiler_choice {a0 a1 a2 a3 : V} : L2.start nm_Compiler_choice [a0, a1, a2, a3] = [some a0, some a1, some a2, some a3, none, none] := rfl

theorem ok_choice (T : Txt w K mg) (k n : Nat) (m_Compiler_value : C8.Met P w K mg base k (He.ga K "Compiler") "value" (sp_val K n) []) : C8.Met P w K mg base (k + 1) (He.ga K "Compiler") "choice" (sp_choice K (n + 1)) [] := by
  refine metD (k := k) T.cCompiler T.mCompiler_choice T.f_Compiler_choice sc_Compiler_choice (fun _ _ _ _ _ _ us hl => match us, hl with | [_, _, _, _], _ => rfl) (fun vs H Q Ex h => ?_) (fun cdv A outer s H vs Q Ex hr h => ⟨_, (pss_cons (ps_expr (C8.pe_mt m_Compiler_value hr (by omega) (pv 0) (pa_cons (pv 1) (pa_cons (pe_ix ix_2 (pv 2) pe_int (fun _ _ => rfl)) (pa_cons (pv 3) pa_nil))))) (pss_cons (ps_set (i := 4) sc_Compiler_choice.nd rfl (by first | exact Or.inl rfl | exact Or.inr rfl) (pe_callB call_len2 (by rfl) T.z_len PySem.boot_len (pa_cons (pv 1) pa_nil))) (pss_cons (ps_expr (pe_bm PySem.F.plainAttrs_list PySem.F.slot_list_append PySem.F.type_list_append mt_append (pv 1) (pa_cons (pe_tup (pa_cons pe_str (pa_cons pe_int pa_nil))) pa_nil))) (pss_cons (ps_expr (C8.pe_mt m_Compiler_value hr (by omega) (pv 0) (pa_cons (pv 1) (pa_cons (pe_ix ix_2 (pv 2) pe_int (fun _ _ => rfl)) (pa_cons (pv 3) pa_nil))))) (pss_cons (ps_set (i := 5) sc_Compiler_choice.nd rfl (by first | exact Or.inl rfl | exact Or.inr rfl) (pe_callB call_len2 (by rfl) T.z_len PySem.boot_len (pa_cons (pv 1) pa_nil))) (pss_cons (ps_expr (pe_bm PySem.F.plainAttrs_list PySem.F.slot_list_append PySem.F.type_list_append mt_append (pv 1) (pa_cons (pe_tup (pa_cons pe_str (pa_cons pe_int pa_nil))) pa_nil))) (pss_cons (ps_asg (pe_tup (pa_cons pe_str (pa_cons (pe_callB call_len2 (by rfl) T.z_len PySem.boot_len (pa_cons (pv 1) pa_nil)) pa_nil))) (pg_sub (pv 1) (pv 4) set_list)) (pss_cons (ps_expr (C8.pe_mt m_Compiler_value hr (by omega) (pv 0) (pa_cons (pv 1) (pa_cons (pe_ix ix_2 (pv 2) pe_int (fun _ _ => rfl)) (pa_cons (pv 3) pa_nil))))) (pss_one (ps_asg (pe_tup (pa_cons pe_str (pa_cons (pe_callB call_len2 (by rfl) T.z_len PySem.boot_len (pa_cons (pv 1) pa_nil)) pa_nil))) (pg_sub (pv 1) (pv 5) set_list))))))))))), ?_⟩)
  · obtain ⟨x, dx, lb, lu, l, nl, qvs, vs0, e, ns, ve, rfl, _⟩ := h
    rfl
  · obtain ⟨x, dx, lb, lu, l, nl, qvs, vs0, e, ns, ve, rfl, cv, re, hd, hc, z1, z2, z3, k⟩ := h
    rw [st_Compiler_choice]
    obtain ⟨⟨e1, e2, e3, rfl⟩, hd⟩ := hd
    obtain ⟨hc1, hc2, hc3⟩ := hc
    simp only [E.dep, E.size] at hd z1 z2 z3
    have ho := cv.ho
    have hl := cv.hl
    have t1 := E.val_len e1 ns vs0.length qvs.length
    have t2 := E.qs_len e1 ns
    obtain ⟨ar, _, rfl, har, _, _, rfl, rfl, _, _, rfl, r1, _, _, rfl, r2, _, _, rfl, r3, rfl⟩ := re
    walk_at "w"
    refine ⟨x, dx, lb, lu, l, nl, _, _, e1, ns, _, rfl, cv, r1, ⟨trivial, by omega⟩, hc1, by omega, by omega, by omega, fun H1 rs1 qn1 kp1 hl1 rr1 hu1 rq1 => ?_⟩
    have cv1 := cv.next kp1 hl1 hu1
    have le1 : Le K H H1 := kp1.le cv.hl cv.hu
    have ho1 := cv1.ho
    have len1 := rr1.length
    have lq1 := rq1.len
    have zr : (vs0 ++ rs1).length ≤ 100000 := by rw [List.length_append]; omega
    walk_at "w"
    rename_i q1 hq1
    have s1 : Same H1 (upd H1 q1 (HO.tup [V.str "unless", V.int 0])) := Same.new (Same.refl _) hq1
    have cv2 := (cv1.same s1).push (v := .ref q1)
    have kp2 : Kp H1 (upd (upd H1 q1 (HO.tup [V.str "unless", V.int 0])) l (HO.lst ((vs0 ++ rs1) ++ [V.ref q1]))) l lu := (Kp.same s1).trans (cv1.same s1).kpush
    have le2 : Le K H (upd (upd H1 q1 (HO.tup [V.str "unless", V.int 0])) l (HO.lst ((vs0 ++ rs1) ++ [V.ref q1]))) := le1.trans (kp2.le cv1.hl cv1.hu)
    have kp02 := kp1.trans kp2
    have ho2 := cv2.ho
    have t3 := E.val_len e2 ns (vs0.length + rs1.length + 1) (qvs.length + qn1.length)
    have t4 := E.qs_len e2 ns
    have l2 : ((vs0 ++ rs1) ++ [V.ref q1]).length = vs0.length + rs1.length + 1 := by simp only [List.length_append, List.length_cons, List.length_nil]
    have m2 : (qvs ++ qn1).length = qvs.length + qn1.length := List.length_append
    generalize hH2 : upd (upd H1 q1 (HO.tup [V.str "unless", V.int 0])) l (HO.lst ((vs0 ++ rs1) ++ [V.ref q1])) = H2 at cv2 kp2 le2 kp02 ho2 ⊢
    have rq2 := rq1.mono (kp2.le cv1.hl cv1.hu) kp2
    walk_at "w"
    refine ⟨x, dx, lb, lu, l, nl, _, _, e2, ns, _, rfl, cv2, r2.mono le2, ⟨trivial, by omega⟩, hc2, by rw [l2]; omega, by rw [m2]; omega, by omega, fun H3 rs3 qn3 kp3 hl3 rr3 hu3 rq3 => ?_⟩
    rw [l2, m2] at rr3
    have cv3 := cv2.next kp3 hl3 hu3
    have kp03 := kp02.trans kp3
    have le23 : Le K H2 H3 := kp3.le cv2.hl cv2.hu
    have le3 := le2.trans le23
    have ho3 := cv3.ho
    have hl3' := cv3.hl
    have len3 := rr3.length
    have lq3 := rq3.len
    have rq23 := rq2.mono le23 kp3
    have zr3 : (((vs0 ++ rs1) ++ [V.ref q1]) ++ rs3).length ≤ 100000 := by rw [List.length_append, l2]; omega
    clear hH2
    walk_at "w"
    rename_i q2 hq2 q3 hq3
    have s3 : Same H3 (upd H3 q2 (HO.tup [V.str "jump", V.int 0])) := Same.new (Same.refl _) hq2
    have cv4 := (cv3.same s3).push (v := .ref q2)
    have kp4 : Kp H3 (upd (upd H3 q2 (HO.tup [V.str "jump", V.int 0])) l (HO.lst ((vs0 ++ rs1 ++ [V.ref q1] ++ rs3) ++ [V.ref q2]))) l lu := (Kp.same s3).trans (cv3.same s3).kpush
    have s4 := Same.new (o := HO.tup [V.str "unless", V.int (((vs0 ++ rs1 ++ [V.ref q1] ++ rs3) ++ [V.ref q2]).length : Nat)]) (Same.refl _) hq3
    have cv5 := cv4.same s4
    have kp5 := kp4.trans (Kp.same s4)
    have el : vs0 ++ rs1 ++ [V.ref q1] ++ rs3 ++ [V.ref q2] = (vs0 ++ rs1) ++ ([V.ref q1] ++ (rs3 ++ [V.ref q2])) := by simp only [List.append_assoc]
    have hl5 := cv5.hl
    refine w_setL hl5 (by rw [el]; exact ixN_mid) ?_
    have kp6 := kp5.trans (cv5.kpush (o := .lst ((vs0 ++ rs1 ++ [V.ref q1] ++ rs3 ++ [V.ref q2]).set (vs0 ++ rs1).length (.ref q3))))
    have cv6 := cv5.setl (vs1 := (vs0 ++ rs1 ++ [V.ref q1] ++ rs3 ++ [V.ref q2]).set (vs0 ++ rs1).length (.ref q3))
    have l6 : ((vs0 ++ rs1 ++ [V.ref q1] ++ rs3 ++ [V.ref q2]).set (vs0 ++ rs1).length (.ref q3)).length = vs0.length + rs1.length + 1 + rs3.length + 1 := by
      rw [List.length_set]
      simp only [List.length_append, List.length_cons, List.length_nil]
    have lu6 : (((vs0 ++ rs1 ++ [V.ref q1] ++ rs3) ++ [V.ref q2]).length : Nat) = vs0.length + rs1.length + 1 + rs3.length + 1 := by simp only [List.length_append, List.length_cons, List.length_nil]
    have m6 : (qvs ++ qn1 ++ qn3).length = qvs.length + qn1.length + qn3.length := by rw [List.length_append, List.length_append]
    have hu6 : ∀ HH, Kp (upd (upd (upd H3 q2 (HO.tup [V.str "jump", V.int 0])) l (HO.lst (vs0 ++ rs1 ++ [V.ref q1] ++ rs3 ++ [V.ref q2]))) q3 (HO.tup [V.str "unless", V.int ((vs0 ++ rs1 ++ [V.ref q1] ++ rs3 ++ [V.ref q2]).length : Nat)])) HH l lu → SqT K HH q3 [V.str "unless", V.int ((vs0 ++ rs1 ++ [V.ref q1] ++ rs3 ++ [V.ref q2]).length : Nat)] := fun HH kp => (kp.le cv5.hl cv5.hu) _ _ (sqt_of upd_same)
    have ht6 := hu6 _ (cv5.kpush (o := .lst ((vs0 ++ rs1 ++ [V.ref q1] ++ rs3 ++ [V.ref q2]).set (vs0 ++ rs1).length (.ref q3))))
    have t5 := E.val_len e3 ns (vs0.length + rs1.length + 1 + rs3.length + 1) (qvs.length + qn1.length + qn3.length)
    have t6 := E.qs_len e3 ns
    clear hu6
    generalize hH6 : upd (upd (upd (upd H3 q2 (HO.tup [V.str "jump", V.int 0])) l (HO.lst (vs0 ++ rs1 ++ [V.ref q1] ++ rs3 ++ [V.ref q2]))) q3 (HO.tup [V.str "unless", V.int ((vs0 ++ rs1 ++ [V.ref q1] ++ rs3 ++ [V.ref q2]).length : Nat)])) l (HO.lst ((vs0 ++ rs1 ++ [V.ref q1] ++ rs3 ++ [V.ref q2]).set (vs0 ++ rs1).length (.ref q3))) = H6 at cv6 kp6 ht6 ⊢
    rw [lu6] at ht6
    clear hH6 kp5 cv5 cv4 kp4 s4 s3 hq3 hq2 hl5
    have les6 : Le K H3 H6 := kp6.le cv3.hl cv3.hu
    have le6 := le3.trans les6
    have rq61 := rq23.mono les6 kp6
    have rq62 := rq3.mono les6 kp6
    have rr61 := ((rr1.mono (kp2.le cv1.hl cv1.hu)).mono le23).mono les6
    have rr62 := rr3.mono les6
    have kp06 := kp03.trans kp6
    have ho6 := cv6.ho
    clear rq1 rq2 rq23 rq3 rr1 rr3 kp02 kp03 kp2 kp3 kp6 cv1 cv2 cv3
    walk_at "w"
    refine ⟨x, dx, lb, lu, l, nl, _, _, e3, ns, _, rfl, cv6, r3.mono le6, ⟨trivial, by omega⟩, hc3, by rw [l6]; omega, by rw [m6]; omega, by omega, fun H7 rs7 qn7 kp7 hl7 rr7 hu7 rq7 => ?_⟩
    rw [l6, m6] at rr7
    have cv7 := cv6.next kp7 hl7 hu7
    have le67 : Le K H6 H7 := kp7.le cv6.hl cv6.hu
    have len7 := rr7.length
    have el7 : (vs0 ++ rs1 ++ [V.ref q1] ++ rs3 ++ [V.ref q2]).set (vs0 ++ rs1).length (.ref q3) ++ rs7 = (vs0 ++ rs1 ++ [V.ref q3] ++ rs3) ++ ([V.ref q2] ++ rs7) := by
      rw [el, set_mid]
      simp only [List.append_assoc]
    rw [el7] at cv7
    have ho7 := cv7.ho
    have hl7' := cv7.hl
    have l7 : ((vs0 ++ rs1 ++ [V.ref q3] ++ rs3) ++ ([V.ref q2] ++ rs7)).length = vs0.length + rs1.length + 1 + rs3.length + 1 + rs7.length := by
      simp only [List.length_append, List.length_cons, List.length_nil]
      omega
    have lj : (vs0 ++ rs1 ++ [V.ref q1] ++ rs3).length = (vs0 ++ rs1 ++ [V.ref q3] ++ rs3).length := by simp only [List.length_append, List.length_cons, List.length_nil]
    rw [lj]
    clear hl7 hu7 cv6 lj el el7
    walk_at "w"
    rename_i q8 hq8
    have cv8 := cv7.same (Same.new (o := HO.tup [V.str "jump", V.int (((vs0 ++ rs1 ++ [V.ref q3] ++ rs3) ++ ([V.ref q2] ++ rs7)).length : Nat)]) (Same.refl _) hq8)
    refine w_setL cv8.hl ixN_mid ?_
    rw [set_mid]
    have kp8 : Kp H7 (upd (upd H7 q8 (HO.tup [V.str "jump", V.int (((vs0 ++ rs1 ++ [V.ref q3] ++ rs3) ++ ([V.ref q2] ++ rs7)).length : Nat)])) l (.lst ((vs0 ++ rs1 ++ [V.ref q3] ++ rs3) ++ ([V.ref q8] ++ rs7)))) l lu := (Kp.same (Same.new (Same.refl _) hq8)).trans cv8.kpush
    have le8 := Kp.le (K := K) kp8 cv7.hl cv7.hu
    have cv9 := cv8.setl (vs1 := (vs0 ++ rs1 ++ [V.ref q3] ++ rs3) ++ ([V.ref q8] ++ rs7))
    have hq9 := (cv8.kpush (o := .lst ((vs0 ++ rs1 ++ [V.ref q3] ++ rs3) ++ ([V.ref q8] ++ rs7)))).le cv8.hl cv8.hu _ _ (sqt_of (K := K) upd_same)
    walk_at "w"
    refine k _ (rs1 ++ ([V.ref q3] ++ (rs3 ++ ([V.ref q8] ++ rs7)))) (qn1 ++ (qn3 ++ qn7)) ((kp06.trans kp7).trans kp8) ?_ ?_ ?_ ?_
    · rw [cv9.hl]
      simp only [List.append_assoc]
    · simp only [E.val]
      rw [← len1, ← lq1, ← len3, ← lq3, ← len7]
      refine Reps.append ((rr61.mono le67).mono le8) (Reps.append (Reps.one ?_) (Reps.append ((rr62.mono le67).mono le8) (Reps.append (Reps.one ?_) (rr7.mono le8))))
      · exact Rep.mk (le8 _ _ (le67 _ _ ht6)) (Reps.cons rfl (Reps.cons rfl rfl))
      · exact Rep.mk hq9 (Reps.cons rfl (Reps.cons (by show V.int _ = V.int _; rw [l7]) rfl))
    · rw [cv9.hu]
      simp only [List.append_assoc]
    · exact QReps.app ((rq61.mono le67 kp7).mono le8 kp8) (QReps.app ((rq62.mono le67 kp7).mono le8 kp8) (rq7.mono le8 kp8))

end
set_option maxRecDepth 100000
set_option maxHeartbeats 400000
section
variable {P : Program} {w : World} {K : PySem.W.Frag} {mg : Str → Option Value} {base : Heap}

abbrev nm_Compiler_simple : List Str := ["self", "rows", "expression", "names", "head", "has_word", "part"]
theorem sc_Compiler_simple : FnScope nm_Compiler_simple ["self", "rows", "expression", "names"] (defScope s_Compiler_simple) := ⟨rfl, rfl, rfl, by decide +kernel, rfl, by decide +kernel, by decide +kernel⟩
theorem st_Compiler_simple {a0 a1 a2 a3 : V} : L2.start nm_Compiler_simple [a0, a1, a2, a3] = [some a0, some a1, some a2, some a3, none, none, none] := rfl

theorem ok_simple (T : Txt w K mg) (k n : Nat) (m_Compiler_value : C8.Met P w K mg base k (He.ga K "Compiler") "value" (sp_val K n) []) : C8.Met P w K mg base (k + 1) (He.ga K "Compiler") "simple" (sp_simple K (n + 1)) [] := by
  refine metD (k := k) T.cCompiler T.mCompiler_simple T.f_Compiler_simple sc_Compiler_simple (fun _ _ _ _ _ _ us hl => match us, hl with | [_, _, _, _], _ => rfl) (fun vs H Q Ex h => ?_) (fun cdv A outer s H vs Q Ex hr h => ⟨_, (pss_cons (ps_set (i := 4) sc_Compiler_simple.nd rfl (by first | exact Or.inl rfl | exact Or.inr rfl) (pe_ix ix_2 (pv 2) pe_int (fun _ _ => rfl))) (pss_cons (ps_set (i := 5) sc_Compiler_simple.nd rfl (by first | exact Or.inl rfl | exact Or.inr rfl) (pe_cmpR op_in_seq (pv 4) (pe_tup (pa_cons pe_str (pa_cons pe_str pa_nil))) (by rfl))) (pss_cons (ps_for PassesOwn.never rfl (pi_tup (pe_slice sl_2 (pv 2) (po_some (pe_op op_plus pe_int (pe_callTy call_int (by rfl) T.z_int (by decide +kernel) (pa_cons (pv 5) pa_nil)))) po_none)) (pg_name (i := 6) sc_Compiler_simple.nd rfl (by first | exact Or.inl rfl | exact Or.inr rfl)) (pss_one (ps_expr (C8.pe_mt m_Compiler_value hr (by omega) (pv 0) (pa_cons (pv 1) (pa_cons (pv 6) (pa_cons (pv 3) pa_nil))))))) (pss_one (ps_if (pt_tru (pv 5)) (pss_one (ps_expr (pe_bm PySem.F.plainAttrs_list PySem.F.slot_list_append PySem.F.type_list_append mt_append (pv 1) (pa_cons (pe_tup (pa_cons (pv 4) (pa_cons (pe_ix ix_2 (pv 2) pe_int (fun _ _ => rfl)) pa_nil))) pa_nil)))) (pss_one (ps_expr (pe_bm PySem.F.plainAttrs_list PySem.F.slot_list_append PySem.F.type_list_append mt_append (pv 1) (pa_cons (pe_tup (pa_cons (pv 4) pa_nil)) pa_nil))))))))), ?_⟩)
  · obtain ⟨x, dx, lb, lu, l, nl, qvs, vs0, e, ns, ve, rfl, _⟩ := h
    rfl
  · obtain ⟨x, dx, lb, lu, l, nl, qvs, vs0, e, ns, ve, rfl, cv, re, hd, hc, z1, z2, z3, k⟩ := h
    rw [st_Compiler_simple]
    obtain ⟨hsh, hd⟩ := hd
    have ho := cv.ho
    rcases hsh with (⟨e1, e2, rfl | rfl⟩ | ⟨sg, e1, e2, rfl⟩ | ⟨op, e1, rfl⟩)
    · obtain ⟨hc1, hc2⟩ := hc
      simp only [E.dep, E.size] at hd z1 z2 z3
      obtain ⟨ar, _, rfl, har, _, _, rfl, rfl, u1, _, rfl, r1, u2, _, rfl, r2, rfl⟩ := re
      walk_at "w"
      rename_i qt hqt
      refine ⟨qt, rfl, ⟨_, sqt_of upd_same⟩, for_tup (xs := [u1, u2]) (fun i => match i with
        | 0 => fun σ H' => Same H H' ∧ SqT K H' qt [u1, u2] ∧ ∃ v6, σ = [some (.ref x), some (.ref l), some (.ref ar), some (.ref nl), some (.str "call"), some (.bl false), v6]
        | 1 => fun σ H' => SqT K H' qt [u1, u2] ∧ (∃ v6, σ = [some (.ref x), some (.ref l), some (.ref ar), some (.ref nl), some (.str "call"), some (.bl false), v6]) ∧ ∃ rs1 qn1, Kp H H' l lu ∧ CvAt K H' x dx lb lu l nl (qvs ++ qn1) (vs0 ++ rs1) ns ∧ Reps K H' (e1.val ns vs0.length qvs.length) rs1 ∧ QReps K H' l lu (e1.qs ns) qn1
        | _ => fun σ H' => SqT K H' qt [u1, u2] ∧ (∃ v6, σ = [some (.ref x), some (.ref l), some (.ref ar), some (.ref nl), some (.str "call"), some (.bl false), v6]) ∧ ∃ rs1 qn1 rs2 qn2, Kp H H' l lu ∧ CvAt K H' x dx lb lu l nl ((qvs ++ qn1) ++ qn2) ((vs0 ++ rs1) ++ rs2) ns ∧ Reps K H' (e1.val ns vs0.length qvs.length) rs1 ∧ QReps K H' l lu (e1.qs ns) qn1 ∧ Reps K H' (e2.val ns (vs0.length + rs1.length) (qvs.length + qn1.length)) rs2 ∧ QReps K H' l lu (e2.qs ns) qn2)
        ⟨by walk_at "sm", sqt_of upd_same, _, rfl⟩ ?_ ?_ ?_⟩
      · intro i σ H' hi p
        match i, p with
        | 0, p => exact p.2.1
        | 1, p => exact p.1
        | _ + 2, p => exact p.1
      · intro i y σ H' hy p
        match i, hy, p with
        | 0, hy, p =>
          cases hy
          obtain ⟨sm, hq, v6, rfl⟩ := p
          have cv0 := cv.same sm
          have ho0 := cv0.ho
          walk_at "w"
          refine ⟨x, dx, lb, lu, l, nl, _, _, e1, ns, _, rfl, cv0, r1.mono (Le.same sm), ⟨trivial, by omega⟩, hc1, by omega, by omega, by omega, fun H1 rs1 qn1 kp1 hl1 rr1 hu1 rq1 => ?_⟩
          walk_at "w"
          exact ⟨(kp1.le cv0.hl cv0.hu) _ _ hq, ⟨_, rfl⟩, rs1, qn1, (Kp.same sm).trans kp1, cv0.next kp1 hl1 hu1, rr1, rq1⟩
        | 1, hy, p =>
          cases hy
          obtain ⟨hq, ⟨v6, rfl⟩, rs1, qn1, kp1, cv1, rr1, rq1⟩ := p
          have ho1 := cv1.ho
          have len1 := rr1.length
          have lq1 := rq1.len
          have t1 := E.val_len e1 ns vs0.length qvs.length
          have t2 := E.qs_len e1 ns
          walk_at "w"
          refine ⟨x, dx, lb, lu, l, nl, _, _, e2, ns, _, rfl, cv1, r2.mono (kp1.le cv.hl cv.hu), ⟨trivial, by omega⟩, hc2, by rw [List.length_append]; omega, by rw [List.length_append]; omega, by omega, fun H2 rs2 qn2 kp2 hl2 rr2 hu2 rq2 => ?_⟩
          rw [List.length_append, List.length_append] at rr2
          walk_at "w"
          have le2 : Le K H' H2 := kp2.le cv1.hl cv1.hu
          exact ⟨le2 _ _ hq, ⟨_, rfl⟩, rs1, qn1, rs2, qn2, kp1.trans kp2, cv1.next kp2 hl2 hu2, rr1.mono le2, rq1.mono le2 kp2, rr2, rq2⟩
      · rintro σ H' ⟨hq, ⟨v6, rfl⟩, rs1, qn1, rs2, qn2, kp1, cv2, rr1, rq1, rr2, rq2⟩
        have hl2 := cv2.hl
        have len1 := rr1.length
        have lq1 := rq1.len
        have len2 := rr2.length
        have t1 := E.val_len e1 ns vs0.length qvs.length
        have t3 := E.val_len e2 ns (vs0.length + rs1.length) (qvs.length + qn1.length)
        have zr : (vs0 ++ rs1 ++ rs2).length ≤ 100000 := by rw [List.length_append, List.length_append]; omega
        have lea : Le K H H' := kp1.le cv.hl cv.hu
        walk_at "w"
        rename_i qr hqr
        have s3 := Same.new (o := HO.tup [V.str "call"]) (Same.refl _) hqr
        have cv3 := cv2.same s3
        have kp3 := (Kp.same (l := l) (lu := lu) s3).trans (cv3.kpush (o := .lst ((vs0 ++ rs1 ++ rs2) ++ [V.ref qr])))
        have le3 := Kp.le (K := K) kp3 cv2.hl cv2.hu
        refine k _ (rs1 ++ rs2 ++ [.ref qr]) (qn1 ++ qn2) (kp1.trans kp3) ?_ ?_ ?_ ?_
        · rw [upd_same]
          simp only [List.append_assoc]
        · simp only [E.val]
          rw [← len1, ← lq1]
          refine Reps.append (Reps.append (rr1.mono le3) (rr2.mono le3)) (Reps.one ?_)
          exact Rep.mk (cv3.kpush.le cv3.hl cv3.hu _ _ (sqt_of (K := K) upd_same)) (Reps.cons rfl rfl)
        · rw [cv3.push.hu]
          simp only [List.append_assoc]
        · exact QReps.app (rq1.mono le3 kp3) (rq2.mono le3 kp3)
    · obtain ⟨hc1, hc2⟩ := hc
      simp only [E.dep, E.size] at hd z1 z2 z3
      obtain ⟨ar, _, rfl, har, _, _, rfl, rfl, u1, _, rfl, r1, u2, _, rfl, r2, rfl⟩ := re
      walk_at "w"
      rename_i qt hqt
      refine ⟨qt, rfl, ⟨_, sqt_of upd_same⟩, for_tup (xs := [u1, u2]) (fun i => match i with
        | 0 => fun σ H' => Same H H' ∧ SqT K H' qt [u1, u2] ∧ ∃ v6, σ = [some (.ref x), some (.ref l), some (.ref ar), some (.ref nl), some (.str "pair"), some (.bl false), v6]
        | 1 => fun σ H' => SqT K H' qt [u1, u2] ∧ (∃ v6, σ = [some (.ref x), some (.ref l), some (.ref ar), some (.ref nl), some (.str "pair"), some (.bl false), v6]) ∧ ∃ rs1 qn1, Kp H H' l lu ∧ CvAt K H' x dx lb lu l nl (qvs ++ qn1) (vs0 ++ rs1) ns ∧ Reps K H' (e1.val ns vs0.length qvs.length) rs1 ∧ QReps K H' l lu (e1.qs ns) qn1
        | _ => fun σ H' => SqT K H' qt [u1, u2] ∧ (∃ v6, σ = [some (.ref x), some (.ref l), some (.ref ar), some (.ref nl), some (.str "pair"), some (.bl false), v6]) ∧ ∃ rs1 qn1 rs2 qn2, Kp H H' l lu ∧ CvAt K H' x dx lb lu l nl ((qvs ++ qn1) ++ qn2) ((vs0 ++ rs1) ++ rs2) ns ∧ Reps K H' (e1.val ns vs0.length qvs.length) rs1 ∧ QReps K H' l lu (e1.qs ns) qn1 ∧ Reps K H' (e2.val ns (vs0.length + rs1.length) (qvs.length + qn1.length)) rs2 ∧ QReps K H' l lu (e2.qs ns) qn2)
        ⟨by walk_at "sm", sqt_of upd_same, _, rfl⟩ ?_ ?_ ?_⟩
      · intro i σ H' hi p
        match i, p with
        | 0, p => exact p.2.1
        | 1, p => exact p.1
        | _ + 2, p => exact p.1
      · intro i y σ H' hy p
        match i, hy, p with
        | 0, hy, p =>
          cases hy
          obtain ⟨sm, hq, v6, rfl⟩ := p
          have cv0 := cv.same sm
          have ho0 := cv0.ho
          walk_at "w"
          refine ⟨x, dx, lb, lu, l, nl, _, _, e1, ns, _, rfl, cv0, r1.mono (Le.same sm), ⟨trivial, by omega⟩, hc1, by omega, by omega, by omega, fun H1 rs1 qn1 kp1 hl1 rr1 hu1 rq1 => ?_⟩
          walk_at "w"
          exact ⟨(kp1.le cv0.hl cv0.hu) _ _ hq, ⟨_, rfl⟩, rs1, qn1, (Kp.same sm).trans kp1, cv0.next kp1 hl1 hu1, rr1, rq1⟩
        | 1, hy, p =>
          cases hy
          obtain ⟨hq, ⟨v6, rfl⟩, rs1, qn1, kp1, cv1, rr1, rq1⟩ := p
          have ho1 := cv1.ho
          have len1 := rr1.length
          have lq1 := rq1.len
          have t1 := E.val_len e1 ns vs0.length qvs.length
          have t2 := E.qs_len e1 ns
          walk_at "w"
          refine ⟨x, dx, lb, lu, l, nl, _, _, e2, ns, _, rfl, cv1, r2.mono (kp1.le cv.hl cv.hu), ⟨trivial, by omega⟩, hc2, by rw [List.length_append]; omega, by rw [List.length_append]; omega, by omega, fun H2 rs2 qn2 kp2 hl2 rr2 hu2 rq2 => ?_⟩
          rw [List.length_append, List.length_append] at rr2
          walk_at "w"
          have le2 : Le K H' H2 := kp2.le cv1.hl cv1.hu
          exact ⟨le2 _ _ hq, ⟨_, rfl⟩, rs1, qn1, rs2, qn2, kp1.trans kp2, cv1.next kp2 hl2 hu2, rr1.mono le2, rq1.mono le2 kp2, rr2, rq2⟩
      · rintro σ H' ⟨hq, ⟨v6, rfl⟩, rs1, qn1, rs2, qn2, kp1, cv2, rr1, rq1, rr2, rq2⟩
        have hl2 := cv2.hl
        have len1 := rr1.length
        have lq1 := rq1.len
        have len2 := rr2.length
        have t1 := E.val_len e1 ns vs0.length qvs.length
        have t3 := E.val_len e2 ns (vs0.length + rs1.length) (qvs.length + qn1.length)
        have zr : (vs0 ++ rs1 ++ rs2).length ≤ 100000 := by rw [List.length_append, List.length_append]; omega
        have lea : Le K H H' := kp1.le cv.hl cv.hu
        walk_at "w"
        rename_i qr hqr
        have s3 := Same.new (o := HO.tup [V.str "pair"]) (Same.refl _) hqr
        have cv3 := cv2.same s3
        have kp3 := (Kp.same (l := l) (lu := lu) s3).trans (cv3.kpush (o := .lst ((vs0 ++ rs1 ++ rs2) ++ [V.ref qr])))
        have le3 := Kp.le (K := K) kp3 cv2.hl cv2.hu
        refine k _ (rs1 ++ rs2 ++ [.ref qr]) (qn1 ++ qn2) (kp1.trans kp3) ?_ ?_ ?_ ?_
        · rw [upd_same]
          simp only [List.append_assoc]
        · simp only [E.val]
          rw [← len1, ← lq1]
          refine Reps.append (Reps.append (rr1.mono le3) (rr2.mono le3)) (Reps.one ?_)
          exact Rep.mk (cv3.kpush.le cv3.hl cv3.hu _ _ (sqt_of (K := K) upd_same)) (Reps.cons rfl rfl)
        · rw [cv3.push.hu]
          simp only [List.append_assoc]
        · exact QReps.app (rq1.mono le3 kp3) (rq2.mono le3 kp3)
    · obtain ⟨hc1, hc2⟩ := hc
      simp only [E.dep, E.size] at hd z1 z2 z3
      obtain ⟨ar, _, rfl, har, _, _, rfl, rfl, _, _, rfl, rfl, u1, _, rfl, r1, u2, _, rfl, r2, rfl⟩ := re
      walk_at "w"
      rename_i qt hqt
      refine ⟨qt, rfl, ⟨_, sqt_of upd_same⟩, for_tup (xs := [u1, u2]) (fun i => match i with
        | 0 => fun σ H' => Same H H' ∧ SqT K H' qt [u1, u2] ∧ ∃ v6, σ = [some (.ref x), some (.ref l), some (.ref ar), some (.ref nl), some (.str "op"), some (.bl true), v6]
        | 1 => fun σ H' => SqT K H' qt [u1, u2] ∧ (∃ v6, σ = [some (.ref x), some (.ref l), some (.ref ar), some (.ref nl), some (.str "op"), some (.bl true), v6]) ∧ ∃ rs1 qn1, Kp H H' l lu ∧ CvAt K H' x dx lb lu l nl (qvs ++ qn1) (vs0 ++ rs1) ns ∧ Reps K H' (e1.val ns vs0.length qvs.length) rs1 ∧ QReps K H' l lu (e1.qs ns) qn1
        | _ => fun σ H' => SqT K H' qt [u1, u2] ∧ (∃ v6, σ = [some (.ref x), some (.ref l), some (.ref ar), some (.ref nl), some (.str "op"), some (.bl true), v6]) ∧ ∃ rs1 qn1 rs2 qn2, Kp H H' l lu ∧ CvAt K H' x dx lb lu l nl ((qvs ++ qn1) ++ qn2) ((vs0 ++ rs1) ++ rs2) ns ∧ Reps K H' (e1.val ns vs0.length qvs.length) rs1 ∧ QReps K H' l lu (e1.qs ns) qn1 ∧ Reps K H' (e2.val ns (vs0.length + rs1.length) (qvs.length + qn1.length)) rs2 ∧ QReps K H' l lu (e2.qs ns) qn2)
        ⟨by walk_at "sm", sqt_of upd_same, _, rfl⟩ ?_ ?_ ?_⟩
      · intro i σ H' hi p
        match i, p with
        | 0, p => exact p.2.1
        | 1, p => exact p.1
        | _ + 2, p => exact p.1
      · intro i y σ H' hy p
        match i, hy, p with
        | 0, hy, p =>
          cases hy
          obtain ⟨sm, hq, v6, rfl⟩ := p
          have cv0 := cv.same sm
          have ho0 := cv0.ho
          walk_at "w"
          refine ⟨x, dx, lb, lu, l, nl, _, _, e1, ns, _, rfl, cv0, r1.mono (Le.same sm), ⟨trivial, by omega⟩, hc1, by omega, by omega, by omega, fun H1 rs1 qn1 kp1 hl1 rr1 hu1 rq1 => ?_⟩
          walk_at "w"
          exact ⟨(kp1.le cv0.hl cv0.hu) _ _ hq, ⟨_, rfl⟩, rs1, qn1, (Kp.same sm).trans kp1, cv0.next kp1 hl1 hu1, rr1, rq1⟩
        | 1, hy, p =>
          cases hy
          obtain ⟨hq, ⟨v6, rfl⟩, rs1, qn1, kp1, cv1, rr1, rq1⟩ := p
          have ho1 := cv1.ho
          have len1 := rr1.length
          have lq1 := rq1.len
          have t1 := E.val_len e1 ns vs0.length qvs.length
          have t2 := E.qs_len e1 ns
          walk_at "w"
          refine ⟨x, dx, lb, lu, l, nl, _, _, e2, ns, _, rfl, cv1, r2.mono (kp1.le cv.hl cv.hu), ⟨trivial, by omega⟩, hc2, by rw [List.length_append]; omega, by rw [List.length_append]; omega, by omega, fun H2 rs2 qn2 kp2 hl2 rr2 hu2 rq2 => ?_⟩
          rw [List.length_append, List.length_append] at rr2
          walk_at "w"
          have le2 : Le K H' H2 := kp2.le cv1.hl cv1.hu
          exact ⟨le2 _ _ hq, ⟨_, rfl⟩, rs1, qn1, rs2, qn2, kp1.trans kp2, cv1.next kp2 hl2 hu2, rr1.mono le2, rq1.mono le2 kp2, rr2, rq2⟩
      · rintro σ H' ⟨hq, ⟨v6, rfl⟩, rs1, qn1, rs2, qn2, kp1, cv2, rr1, rq1, rr2, rq2⟩
        have hl2 := cv2.hl
        have len1 := rr1.length
        have lq1 := rq1.len
        have len2 := rr2.length
        have t1 := E.val_len e1 ns vs0.length qvs.length
        have t3 := E.val_len e2 ns (vs0.length + rs1.length) (qvs.length + qn1.length)
        have zr : (vs0 ++ rs1 ++ rs2).length ≤ 100000 := by rw [List.length_append, List.length_append]; omega
        have lea : Le K H H' := kp1.le cv.hl cv.hu
        walk_at "w"
        rename_i qr hqr
        have s3 := Same.new (o := HO.tup [V.str "op", V.str sg.str]) (Same.refl _) hqr
        have cv3 := cv2.same s3
        have kp3 := (Kp.same (l := l) (lu := lu) s3).trans (cv3.kpush (o := .lst ((vs0 ++ rs1 ++ rs2) ++ [V.ref qr])))
        have le3 := Kp.le (K := K) kp3 cv2.hl cv2.hu
        refine k _ (rs1 ++ rs2 ++ [.ref qr]) (qn1 ++ qn2) (kp1.trans kp3) ?_ ?_ ?_ ?_
        · rw [upd_same]
          simp only [List.append_assoc]
        · simp only [E.val]
          rw [← len1, ← lq1]
          refine Reps.append (Reps.append (rr1.mono le3) (rr2.mono le3)) (Reps.one ?_)
          exact Rep.mk (cv3.kpush.le cv3.hl cv3.hu _ _ (sqt_of (K := K) upd_same)) (Reps.cons rfl (Reps.cons rfl rfl))
        · rw [cv3.push.hu]
          simp only [List.append_assoc]
        · exact QReps.app (rq1.mono le3 kp3) (rq2.mono le3 kp3)
    · have hc1 : e1.clo ns := hc
      simp only [E.dep, E.size] at hd z1 z2 z3
      obtain ⟨ar, _, rfl, har, _, _, rfl, rfl, _, _, rfl, rfl, u1, _, rfl, r1, rfl⟩ := re
      walk_at "w"
      rename_i qt hqt
      refine ⟨qt, rfl, ⟨_, sqt_of upd_same⟩, for_tup (xs := [u1]) (fun i => match i with
        | 0 => fun σ H' => Same H H' ∧ SqT K H' qt [u1] ∧ ∃ v6, σ = [some (.ref x), some (.ref l), some (.ref ar), some (.ref nl), some (.str "ask"), some (.bl true), v6]
        | _ => fun σ H' => SqT K H' qt [u1] ∧ (∃ v6, σ = [some (.ref x), some (.ref l), some (.ref ar), some (.ref nl), some (.str "ask"), some (.bl true), v6]) ∧ ∃ rs1 qn1, Kp H H' l lu ∧ CvAt K H' x dx lb lu l nl (qvs ++ qn1) (vs0 ++ rs1) ns ∧ Reps K H' (e1.val ns vs0.length qvs.length) rs1 ∧ QReps K H' l lu (e1.qs ns) qn1)
        ⟨by walk_at "sm", sqt_of upd_same, _, rfl⟩ ?_ ?_ ?_⟩
      · intro i σ H' hi p
        match i, p with
        | 0, p => exact p.2.1
        | _ + 1, p => exact p.1
      · intro i y σ H' hy p
        match i, hy, p with
        | 0, hy, p =>
          cases hy
          obtain ⟨sm, hq, v6, rfl⟩ := p
          have cv0 := cv.same sm
          have ho0 := cv0.ho
          walk_at "w"
          refine ⟨x, dx, lb, lu, l, nl, _, _, e1, ns, _, rfl, cv0, r1.mono (Le.same sm), ⟨trivial, by omega⟩, hc1, by omega, by omega, by omega, fun H1 rs1 qn1 kp1 hl1 rr1 hu1 rq1 => ?_⟩
          walk_at "w"
          exact ⟨(kp1.le cv0.hl cv0.hu) _ _ hq, ⟨_, rfl⟩, rs1, qn1, (Kp.same sm).trans kp1, cv0.next kp1 hl1 hu1, rr1, rq1⟩
        | _ + 1, hy, p => exact absurd hy (by simp)
      · rintro σ H' ⟨hq, ⟨v6, rfl⟩, rs1, qn1, kp1, cv2, rr1, rq1⟩
        have hl2 := cv2.hl
        have len1 := rr1.length
        have lq1 := rq1.len
        have t1 := E.val_len e1 ns vs0.length qvs.length
        have zr : (vs0 ++ rs1).length ≤ 100000 := by rw [List.length_append]; omega
        have lea : Le K H H' := kp1.le cv.hl cv.hu
        walk_at "w"
        rename_i qr hqr
        have s3 := Same.new (o := HO.tup [V.str "ask", V.str op.str]) (Same.refl _) hqr
        have cv3 := cv2.same s3
        have kp3 := (Kp.same (l := l) (lu := lu) s3).trans (cv3.kpush (o := .lst ((vs0 ++ rs1) ++ [V.ref qr])))
        have le3 := Kp.le (K := K) kp3 cv2.hl cv2.hu
        refine k _ (rs1 ++ [.ref qr]) qn1 (kp1.trans kp3) ?_ ?_ ?_ ?_
        · rw [upd_same]
          simp only [List.append_assoc]
        · simp only [E.val]
          refine Reps.append (rr1.mono le3) (Reps.one ?_)
          exact Rep.mk (cv3.kpush.le cv3.hl cv3.hu _ _ (sqt_of (K := K) upd_same)) (Reps.cons rfl (Reps.cons rfl rfl))
        · rw [cv3.push.hu]
        · exact rq1.mono le3 kp3

end
set_option maxRecDepth 100000
set_option maxHeartbeats 400000
section
variable {P : Program} {w : World} {K : PySem.W.Frag} {mg : Str → Option Value} {base : Heap}

abbrev nm_Compiler_value : List Str := ["self", "rows", "expression", "names", "head", "inner"]
theorem sc_Compiler_value : FnScope nm_Compiler_value ["self", "rows", "expression", "names"] (defScope s_Compiler_value) := ⟨rfl, rfl, rfl, by decide +kernel, rfl, by decide +kernel, by decide +kernel⟩
theorem st_Compiler_value {a0 a1 a2 a3 : V} : L2.start nm_Compiler_value [a0, a1, a2, a3] = [some a0, some a1, some a2, some a3, none, none] := rfl

theorem CvAt.fin1 {K : PySem.W.Frag} {H H1 : Hp} {x dx lb lu l nl : Addr} {qvs vs0 : List V} {ns : List Nm} {Q : Hp → Prop} {v : V} {d : D} (cv : CvAt K H x dx lb lu l nl qvs vs0 ns) (s : Same H H1) (r : Rep K H1 d v)
    (k : ∀ H' rs qn, Kp H H' l lu → H' l = some (.lst (vs0 ++ rs)) → Reps K H' [d] rs → H' lu = some (.lst (qvs ++ qn)) → QReps K H' l lu [] qn → Q H') : Q (upd H1 l (.lst (vs0 ++ [v]))) := by
  have cv1 := cv.same s
  have kp := cv1.kpush (o := .lst (vs0 ++ [v]))
  exact k _ [v] [] ((Kp.same s).trans kp) upd_same (Reps.one (r.mono (Kp.le (K := K) kp cv1.hl cv1.hu))) (by rw [List.append_nil]; exact cv1.push.hu) rfl
theorem nm_idx (x : Nm) : ∀ r : List Nm, x ∈ r → (nmV r)[r.idxOf x]? = some (V.str x.str) ∧ ∀ m z, m < r.idxOf x → (nmV r)[m]? = some z → eqV z (.str x.str) = false
  | [], h => by cases h
  | y :: r, h => by
    by_cases e : y = x
    · subst e
      rw [List.idxOf_cons_self]
      exact ⟨rfl, fun m z hm => absurd hm (Nat.not_lt_zero _)⟩
    · have hr : x ∈ r := by
        rcases List.mem_cons.mp h with h | h
        · exact absurd h.symm e
        · exact h
      obtain ⟨h1, h2⟩ := nm_idx x r hr
      rw [List.idxOf_cons, show (y == x) = false from beq_eq_false_iff_ne.mpr e, cond_false]
      refine ⟨h1, fun m z hm hz => ?_⟩
      match m, hm, hz with
      | 0, _, hz =>
        cases hz
        exact beq_eq_false_iff_ne.mpr (Nm.str_ne e)
      | m + 1, hm, hz => exact h2 m z (by omega) hz
theorem nmV_len (ns : List Nm) : (nmV ns).length = ns.length := List.length_map ..
theorem ok_value_s (T : Txt w K mg) (k n : Nat) (m_Compiler_block : C8.Met P w K mg base 1 (He.ga K "Compiler") "block" (sp_block K) []) (m_Compiler_value : C8.Met P w K mg base k (He.ga K "Compiler") "value" (sp_val K n) []) (m_Compiler_choice : C8.Met P w K mg base (k + 1) (He.ga K "Compiler") "choice" (sp_choice K (n + 1)) []) (m_Compiler_simple : C8.Met P w K mg base (k + 1) (He.ga K "Compiler") "simple" (sp_simple K (n + 1)) []) : C8.Met P w K mg base (k + 2) (He.ga K "Compiler") "value" (sp_val K (n + 1)) [] := by
  refine metD (k := (k + 1)) T.cCompiler T.mCompiler_value T.f_Compiler_value sc_Compiler_value (fun _ _ _ _ _ _ us hl => match us, hl with | [_, _, _, _], _ => rfl) (fun vs H Q Ex h => ?_) (fun cdv A outer s H vs Q Ex hr h => ⟨_, (pss_cons (ps_set (i := 4) sc_Compiler_value.nd rfl (by first | exact Or.inl rfl | exact Or.inr rfl) (pe_ix ix_2 (pv 2) pe_int (fun _ _ => rfl))) (pss_one (ps_if (pt_cmpR op_inK (pv 4) (pe_glob (v := V.ref (He.ga K "LEAVES_code")) (by rfl) T.g_LEAVES_code rfl) (by rfl)) (pss_one (ps_expr (pe_bm PySem.F.plainAttrs_list PySem.F.slot_list_append PySem.F.type_list_append mt_append (pv 1) (pa_cons (pe_op op_plus (pe_tup (pa_cons (pe_ix ix_kdict (pe_glob (v := V.ref (He.ga K "LEAVES_code")) (by rfl) T.g_LEAVES_code rfl) (pv 4) (fun _ _ => rfl)) pa_nil)) (pe_slice sl_2 (pv 2) (po_some pe_int) po_none)) pa_nil)))) (pss_one (ps_if (pt_cmpR op_eq (pv 4) pe_str (by rfl)) (pss_one (ps_expr (pe_bm PySem.F.plainAttrs_list PySem.F.slot_list_append PySem.F.type_list_append mt_append (pv 1) (pa_cons (pe_tup (pa_cons pe_str (pa_cons (pe_bm PySem.F.plainAttrs_list PySem.F.slot_list_index PySem.F.type_list_index mt_index (pe_revL (pv 3)) (pa_cons (pe_ix ix_2 (pv 2) pe_int (fun _ _ => rfl)) pa_nil)) pa_nil))) pa_nil)))) (pss_one (ps_if (pt_cmpR op_eq (pv 4) pe_str (by rfl)) (pss_one (ps_expr (pe_bm PySem.F.plainAttrs_list PySem.F.slot_list_append PySem.F.type_list_append mt_append (pv 1) (pa_cons (pe_tup (pa_cons pe_str (pa_cons (C8.pe_mt m_Compiler_block hr (by omega) (pv 0) (pa_cons (pe_ix ix_2 (pv 2) pe_int (fun _ _ => rfl)) (pa_cons (pe_op op_plus (pv 3) (pe_lst (pa_cons (pe_ix ix_2 (pv 2) pe_int (fun _ _ => rfl)) pa_nil))) pa_nil))) (pa_cons pe_bl pa_nil)))) pa_nil)))) (pss_one (ps_if (pt_cmpR op_eq (pv 4) pe_str (by rfl)) (pss_cons (ps_set (i := 5) sc_Compiler_value.nd rfl (by first | exact Or.inl rfl | exact Or.inr rfl) (pe_op op_plus (pv 3) (pe_lst (pa_cons (pe_ix ix_2 (pv 2) pe_int (fun _ _ => rfl)) (pa_cons (pe_ix ix_2 (pv 2) pe_int (fun _ _ => rfl)) pa_nil))))) (pss_one (ps_expr (pe_bm PySem.F.plainAttrs_list PySem.F.slot_list_append PySem.F.type_list_append mt_append (pv 1) (pa_cons (pe_tup (pa_cons pe_str (pa_cons (C8.pe_mt m_Compiler_block hr (by omega) (pv 0) (pa_cons (pe_ix ix_2 (pv 2) pe_int (fun _ _ => rfl)) (pa_cons (pv 5) pa_nil))) (pa_cons pe_bl pa_nil)))) pa_nil))))) (pss_one (ps_if (pt_cmpR op_eq (pv 4) pe_str (by rfl)) (pss_cons (ps_expr (C8.pe_mt m_Compiler_value hr (by omega) (pv 0) (pa_cons (pv 1) (pa_cons (pe_ix ix_2 (pv 2) pe_int (fun _ _ => rfl)) (pa_cons (pv 3) pa_nil))))) (pss_cons (ps_expr (pe_bm PySem.F.plainAttrs_list PySem.F.slot_list_append PySem.F.type_list_append mt_append (pv 1) (pa_cons (pe_tup (pa_cons pe_str pa_nil)) pa_nil))) (pss_cons (ps_expr (C8.pe_mt m_Compiler_value hr (by omega) (pv 0) (pa_cons (pv 1) (pa_cons (pe_ix ix_2 (pv 2) pe_int (fun _ _ => rfl)) (pa_cons (pe_op op_plus (pv 3) (pe_lst (pa_cons (pe_ix ix_2 (pv 2) pe_int (fun _ _ => rfl)) pa_nil))) pa_nil))))) (pss_one (ps_expr (pe_bm PySem.F.plainAttrs_list PySem.F.slot_list_append PySem.F.type_list_append mt_append (pv 1) (pa_cons (pe_tup (pa_cons pe_str pa_nil)) pa_nil))))))) (pss_one (ps_if (pt_cmpR op_eq (pv 4) pe_str (by rfl)) (pss_one (ps_expr (C8.pe_mt m_Compiler_choice hr (by omega) (pv 0) (pa_cons (pv 1) (pa_cons (pv 2) (pa_cons (pv 3) pa_nil)))))) (pss_one (ps_if (pt_cmpR op_eq (pv 4) pe_str (by rfl)) (pss_cons (ps_expr (C8.pe_mt m_Compiler_value hr (by omega) (pv 0) (pa_cons (pv 1) (pa_cons (pe_ix ix_2 (pv 2) pe_int (fun _ _ => rfl)) (pa_cons (pv 3) pa_nil))))) (pss_cons (ps_expr (pe_bm PySem.F.plainAttrs_list PySem.F.slot_list_append PySem.F.type_list_append mt_append (pv 1) (pa_cons (pe_tup (pa_cons pe_str pa_nil)) pa_nil))) (pss_one (ps_expr (C8.pe_mt m_Compiler_value hr (by omega) (pv 0) (pa_cons (pv 1) (pa_cons (pe_ix ix_2 (pv 2) pe_int (fun _ _ => rfl)) (pa_cons (pv 3) pa_nil)))))))) (pss_one (ps_if (pt_cmpR op_eq (pv 4) pe_str (by rfl)) pss_never (pss_one (ps_expr (C8.pe_mt m_Compiler_simple hr (by omega) (pv 0) (pa_cons (pv 1) (pa_cons (pv 2) (pa_cons (pv 3) pa_nil))))))))))))))))))))))), ?_⟩)
  · obtain ⟨x, dx, lb, lu, l, nl, qvs, vs0, e, ns, ve, rfl, _⟩ := h
    rfl
  · obtain ⟨x, dx, lb, lu, l, nl, qvs, vs0, e, ns, ve, rfl, cv, re, hd, hc, z1, z2, z3, k⟩ := h
    rw [st_Compiler_value]
    obtain ⟨_, hd⟩ := hd
    have ho := cv.ho
    have hl := cv.hl
    have hn := cv.hn
    have zl : vs0.length ≤ 100000 := by omega
    have ln := nmV_len ns
    have nl0 := cv.n1
    have re0 := re
    cases e with
    | quoted q => exact hc.elim
    | num i =>
      obtain ⟨ar, _, rfl, har, _, _, rfl, rfl, _, _, rfl, rfl, rfl⟩ := re
      obtain ⟨lu1, lu2, lu3⟩ := T.lv_num
      obtain ⟨es, ne, D⟩ := T.leaves
      walk_at "w"
      refine ⟨_, _, _, rfl, rfl, ⟨es, ne, D⟩, lu2, ?_⟩
      walk_at "w"
      refine ⟨_, _, V.str "int", rfl, rfl, ⟨es, ne, lu1, D.at_, D.lit, lu2, lu3⟩, ?_⟩
      walk_at "w"
      exact CvAt.fin1 (Q := fun HH => Q .non HH) cv (by walk_at "sm") (by walk_at "rp") k
    | unit =>
      obtain ⟨ar, _, rfl, har, _, _, rfl, rfl, rfl⟩ := re
      obtain ⟨lu1, lu2, lu3⟩ := T.lv_unit
      obtain ⟨es, ne, D⟩ := T.leaves
      walk_at "w"
      refine ⟨_, _, _, rfl, rfl, ⟨es, ne, D⟩, lu2, ?_⟩
      walk_at "w"
      refine ⟨_, _, V.str "unit", rfl, rfl, ⟨es, ne, lu1, D.at_, D.lit, lu2, lu3⟩, ?_⟩
      walk_at "w"
      refine w_plusT0 (by walk_at "lk") (by walk_at "lk") (List.cons_ne_nil _ _) rfl ?_
      walk_at "w"
      exact CvAt.fin1 (Q := fun HH => Q .non HH) cv (by walk_at "sm") (by walk_at "rp") k
    | name y =>
      obtain ⟨ar, _, rfl, har, _, _, rfl, rfl, _, _, rfl, rfl, rfl⟩ := re
      walk_at "w"
      refine ⟨_, _, _, rfl, rfl, T.leaves, T.lv_no "name" (by simp), ?_⟩
      walk_at "w"
      obtain ⟨i1, i2⟩ := nm_idx y ns.reverse (List.mem_reverse.mpr hc)
      refine ⟨_, rfl, nl, _, rfl, sql_of (by walk_at "lk"), fun q hq => ?_⟩
      walk_at "w"
      have er : (nmV ns).reverse = nmV ns.reverse := (List.map_reverse ..).symm
      refine ⟨q, _, _, idx y ns, _, rfl, rfl, sql_of upd_same, rfl, by rw [er]; exact flat_nm _, by rw [er]; exact i1, by show (y.str == y.str) = true; simp, fun m z hm hz => i2 m z hm (by rw [← er]; exact hz), ?_⟩
      walk_at "w"
      exact CvAt.fin1 (Q := fun HH => Q .non HH) cv (by walk_at "sm") (by walk_at "rp") k
    | fn y e1 =>
      obtain ⟨ar, _, rfl, har, _, _, rfl, rfl, _, _, rfl, rfl, _, _, rfl, r1, rfl⟩ := re
      walk_at "w"
      refine ⟨_, _, _, rfl, rfl, T.leaves, T.lv_no "fun" (by simp), ?_⟩
      walk_at "w"
      rename_i q1 hq1 q2 hq2
      refine w_genS (F := fun HH => Same H HH ∧ HH q2 = some (.lst (nmV (ns ++ [y])))) ⟨by walk_at "sm", by rw [← nmV_app]; walk_at "lk"⟩ ?_
      rintro HA ⟨sA, hqA⟩
      have nq2 : H q2 = none := free_new hq2
      have n1 : q2 ≠ l := (ne_of_none hl nq2).symm
      have n2 : q2 ≠ lu := (ne_of_none cv.hu nq2).symm
      have cvA := cv.same sA
      clear hq1 hq2
      refine ⟨x, dx, lb, lu, q2, _, qvs, rfl, cvA.ho, cvA.hu, by omega, fun H2 t ft kp2 et eu => ?_⟩
      have hl2 := kp2 _ _ cv.n0 cvA.hl
      walk_at "w"
      rename_i qr hqr
      have kpA2 : Kp HA H2 l lu := fun b o _ n e => kp2 b o n e
      have leA2 : Le K HA H2 := kpA2.le cvA.hl cvA.hu
      have cv2 : CvAt K H2 x dx lb lu l nl (qvs ++ [.ref t]) vs0 ns := ⟨kp2 _ _ (ne_ins_lst cvA.ho cvA.hu) cvA.ho, eu, hl2, kp2 _ _ cvA.n2 cvA.hn, cvA.n0, cvA.n1, cvA.n2⟩
      have s3 := Same.new (o := HO.tup [V.str "close", V.int (qvs.length : Nat), V.bl false]) (Same.refl _) hqr
      have cv3 := cv2.same s3
      have kp3 := cv3.kpush (o := .lst (vs0 ++ [V.ref qr]))
      have le3 := Kp.le (K := K) kp3 cv3.hl cv3.hu
      have leB := (Le.same (K := K) s3).trans le3
      have kpB := (Kp.same (l := l) (lu := lu) s3).trans kp3
      refine k _ [.ref qr] [.ref t] (((Kp.same sA).trans kpA2).trans kpB) upd_same ?_ cv3.push.hu ?_
      · exact Reps.one (Rep.mk (le3 _ _ (sqt_of (K := K) upd_same)) (Reps.cons rfl (Reps.cons rfl (Reps.cons rfl rfl))))
      · exact ⟨.ref t, [], rfl, ⟨t, _, q2, rfl, leB _ _ (sqt_of et), (((r1.mono (Le.same sA)).mono leA2).mono leB), kpB _ _ n1 n2 (kp2 _ _ n2 hqA), n1, n2⟩, rfl⟩
    | rc y1 y2 e1 =>
      obtain ⟨ar, _, rfl, har, _, _, rfl, rfl, _, _, rfl, rfl, _, _, rfl, rfl, _, _, rfl, r1, rfl⟩ := re
      walk_at "w"
      refine ⟨_, _, _, rfl, rfl, T.leaves, T.lv_no "rec" (by simp), ?_⟩
      walk_at "w"
      rename_i q1 hq1 q2 hq2
      refine w_genS (F := fun HH => Same H HH ∧ HH q2 = some (.lst (nmV (ns ++ [y1, y2])))) ⟨by walk_at "sm", by rw [← nmV_app]; walk_at "lk"⟩ ?_
      rintro HA ⟨sA, hqA⟩
      have nq2 : H q2 = none := free_new hq2
      have n1 : q2 ≠ l := (ne_of_none hl nq2).symm
      have n2 : q2 ≠ lu := (ne_of_none cv.hu nq2).symm
      have cvA := cv.same sA
      clear hq1 hq2
      refine ⟨x, dx, lb, lu, q2, _, qvs, rfl, cvA.ho, cvA.hu, by omega, fun H2 t ft kp2 et eu => ?_⟩
      have hl2 := kp2 _ _ cv.n0 cvA.hl
      walk_at "w"
      rename_i qr hqr
      have kpA2 : Kp HA H2 l lu := fun b o _ n e => kp2 b o n e
      have leA2 : Le K HA H2 := kpA2.le cvA.hl cvA.hu
      have cv2 : CvAt K H2 x dx lb lu l nl (qvs ++ [.ref t]) vs0 ns := ⟨kp2 _ _ (ne_ins_lst cvA.ho cvA.hu) cvA.ho, eu, hl2, kp2 _ _ cvA.n2 cvA.hn, cvA.n0, cvA.n1, cvA.n2⟩
      have s3 := Same.new (o := HO.tup [V.str "close", V.int (qvs.length : Nat), V.bl true]) (Same.refl _) hqr
      have cv3 := cv2.same s3
      have kp3 := cv3.kpush (o := .lst (vs0 ++ [V.ref qr]))
      have le3 := Kp.le (K := K) kp3 cv3.hl cv3.hu
      have leB := (Le.same (K := K) s3).trans le3
      have kpB := (Kp.same (l := l) (lu := lu) s3).trans kp3
      refine k _ [.ref qr] [.ref t] (((Kp.same sA).trans kpA2).trans kpB) upd_same ?_ cv3.push.hu ?_
      · exact Reps.one (Rep.mk (le3 _ _ (sqt_of (K := K) upd_same)) (Reps.cons rfl (Reps.cons rfl (Reps.cons rfl rfl))))
      · exact ⟨.ref t, [], rfl, ⟨t, _, q2, rfl, leB _ _ (sqt_of et), (((r1.mono (Le.same sA)).mono leA2).mono leB), kpB _ _ n1 n2 (kp2 _ _ n2 hqA), n1, n2⟩, rfl⟩
    | lt y e1 e2 =>
      obtain ⟨hc1, hc2⟩ := hc
      simp only [E.dep, E.size] at hd z1 z2 z3
      obtain ⟨ar, _, rfl, har, _, _, rfl, rfl, _, _, rfl, rfl, _, _, rfl, r1, _, _, rfl, r2, rfl⟩ := re
      have t1 := E.val_len e1 ns vs0.length qvs.length
      have t2 := E.qs_len e1 ns
      walk_at "w"
      refine ⟨_, _, _, rfl, rfl, T.leaves, T.lv_no "let" (by simp), ?_⟩
      walk_at "w"
      refine ⟨x, dx, lb, lu, l, nl, _, _, e1, ns, _, rfl, cv, r1, ⟨trivial, by omega⟩, hc1, by omega, by omega, by omega, fun H1 rs1 qn1 kp1 hl1 rr1 hu1 rq1 => ?_⟩
      have cv1 := cv.next kp1 hl1 hu1
      have le1 : Le K H H1 := kp1.le cv.hl cv.hu
      have ho1 := cv1.ho
      have len1 := rr1.length
      have lq1 := rq1.len
      have zr : (vs0 ++ rs1).length ≤ 100000 := by rw [List.length_append]; omega
      have hn1 := cv1.hn
      walk_at "w"
      rename_i q1 hq1 q2 hq2 q3 hq3
      have s1 := Same.new (o := HO.tup [V.str "bind"]) (Same.refl _) hq1
      have kp2 := (Kp.same (l := l) (lu := lu) s1).trans ((cv1.same s1).kpush (o := .lst ((vs0 ++ rs1) ++ [V.ref q1])))
      have cv2 := (cv1.same s1).push (v := .ref q1)
      have hr2 : SqT K (upd (upd H1 q1 (HO.tup [V.str "bind"])) l (HO.lst ((vs0 ++ rs1) ++ [V.ref q1]))) q1 [V.str "bind"] := (cv1.same s1).kpush.le (cv1.same s1).hl (cv1.same s1).hu _ _ (sqt_of (K := K) upd_same)
      generalize hH2 : upd (upd H1 q1 (HO.tup [V.str "bind"])) l (HO.lst ((vs0 ++ rs1) ++ [V.ref q1])) = H2 at cv2 kp2 hr2 hq2 hq3 ⊢
      have le2 := Kp.le (K := K) kp2 cv1.hl cv1.hu
      have l2 : ((vs0 ++ rs1) ++ [V.ref q1]).length = vs0.length + rs1.length + 1 := by simp only [List.length_append, List.length_cons, List.length_nil]
      have m2 : (qvs ++ qn1).length = qvs.length + qn1.length := List.length_append
      have nq3 : H2 q3 = none := free_new hq3
      have sA : Same H2 (upd (upd H2 q2 (HO.lst [V.str y.str])) q3 (HO.lst (nmV ns ++ [V.str y.str]))) := Same.new (Same.new (Same.refl _) hq2) hq3
      have e3 : nmV ns ++ [V.str y.str] = nmV (ns ++ [y]) := nmV_app ns [y]
      have cv3 := (cv2.same sA).names (nl' := q3) (ns' := ns ++ [y]) (by rw [← e3]; exact upd_same) (ne_of_none cv2.hl nq3).symm (ne_of_none cv2.hu nq3).symm
      have leA := Le.same (K := K) sA
      have le02 := (le1.trans le2).trans leA
      have ho3 := cv3.ho
      refine ⟨x, dx, lb, lu, l, q3, _, _, e2, ns ++ [y], _, rfl, cv3, r2.mono le02, ⟨trivial, by omega⟩, hc2, by rw [l2]; omega, by rw [m2]; omega, by rw [List.length_append, List.length_singleton]; omega, fun H3 rs3 qn3 kp3 hl3 rr3 hu3 rq3 => ?_⟩
      rw [l2, m2] at rr3
      have cv4 := cv3.next kp3 hl3 hu3
      have le3 : Le K _ H3 := kp3.le cv3.hl cv3.hu
      have len3 := rr3.length
      have t3 := E.val_len e2 (ns ++ [y]) (vs0.length + rs1.length + 1) (qvs.length + qn1.length)
      have zr3 : (((vs0 ++ rs1) ++ [V.ref q1]) ++ rs3).length ≤ 100000 := by rw [List.length_append, l2]; omega
      have hl4 := cv4.hl
      walk_at "w"
      rename_i q5 hq5
      have s5 := Same.new (o := HO.tup [V.str "unbind"]) (Same.refl _) hq5
      have kp5 := (Kp.same (l := l) (lu := lu) s5).trans ((cv4.same s5).kpush (o := .lst ((((vs0 ++ rs1) ++ [V.ref q1]) ++ rs3) ++ [V.ref q5])))
      have le5 := Kp.le (K := K) kp5 cv4.hl cv4.hu
      have kpA := (Kp.same (l := l) (lu := lu) sA).trans kp3
      have leA3 := leA.trans le3
      refine k _ (rs1 ++ ([.ref q1] ++ (rs3 ++ [.ref q5]))) (qn1 ++ qn3) (((kp1.trans kp2).trans kpA).trans kp5) ?_ ?_ ?_ ?_
      · rw [upd_same]
        simp only [List.append_assoc]
      · simp only [E.val]
        rw [← len1, ← lq1]
        refine Reps.append (((rr1.mono le2).mono leA3).mono le5) (Reps.append (Reps.one (Rep.mk (le5 _ _ (leA3 _ _ hr2)) (Reps.cons rfl rfl))) (Reps.append (rr3.mono le5) (Reps.one ?_)))
        exact Rep.mk ((cv4.same s5).kpush.le (cv4.same s5).hl (cv4.same s5).hu _ _ (sqt_of (K := K) upd_same)) (Reps.cons rfl rfl)
      · rw [(cv4.same s5).push.hu]
        simp only [List.append_assoc]
      · exact QReps.app (((rq1.mono le2 kp2).mono leA3 kpA).mono le5 kp5) (rq3.mono le5 kp5)
    | print e1 e2 =>
      obtain ⟨hc1, hc2⟩ := hc
      simp only [E.dep, E.size] at hd z1 z2 z3
      obtain ⟨ar, _, rfl, har, _, _, rfl, rfl, _, _, rfl, r1, _, _, rfl, r2, rfl⟩ := re
      have t1 := E.val_len e1 ns vs0.length qvs.length
      have t2 := E.qs_len e1 ns
      walk_at "w"
      refine ⟨_, _, _, rfl, rfl, T.leaves, T.lv_no "print" (by simp), ?_⟩
      walk_at "w"
      have s0 : Same H H := Same.refl _
      have cv0 := cv
      refine ⟨x, dx, lb, lu, l, nl, _, _, e1, ns, _, rfl, cv0, r1.mono (Le.same s0), ⟨trivial, by omega⟩, hc1, by omega, by omega, by omega, fun H1 rs1 qn1 kp1 hl1 rr1 hu1 rq1 => ?_⟩
      have cv1 := cv0.next kp1 hl1 hu1
      have le1 : Le K H H1 := (Le.same s0).trans (kp1.le cv0.hl cv0.hu)
      have kp01 := (Kp.same (l := l) (lu := lu) s0).trans kp1
      have ho1 := cv1.ho
      have len1 := rr1.length
      have lq1 := rq1.len
      have zr : (vs0 ++ rs1).length ≤ 100000 := by rw [List.length_append]; omega
      walk_at "w"
      rename_i q1 hq1
      have s1 := Same.new (o := HO.tup [V.str "print"]) (Same.refl _) hq1
      have kp2 := (Kp.same (l := l) (lu := lu) s1).trans ((cv1.same s1).kpush (o := .lst ((vs0 ++ rs1) ++ [V.ref q1])))
      have cv2 := (cv1.same s1).push (v := .ref q1)
      have hr2 : SqT K (upd (upd H1 q1 (HO.tup [V.str "print"])) l (HO.lst ((vs0 ++ rs1) ++ [V.ref q1]))) q1 [V.str "print"] := (cv1.same s1).kpush.le (cv1.same s1).hl (cv1.same s1).hu _ _ (sqt_of (K := K) upd_same)
      generalize hH2 : upd (upd H1 q1 (HO.tup [V.str "print"])) l (HO.lst ((vs0 ++ rs1) ++ [V.ref q1])) = H2 at cv2 kp2 hr2 ⊢
      have le2 := Kp.le (K := K) kp2 cv1.hl cv1.hu
      have l2 : ((vs0 ++ rs1) ++ [V.ref q1]).length = vs0.length + rs1.length + 1 := by simp only [List.length_append, List.length_cons, List.length_nil]
      have m2 : (qvs ++ qn1).length = qvs.length + qn1.length := List.length_append
      have ho2 := cv2.ho
      have le02 := le1.trans le2
      walk_at "w"
      refine ⟨x, dx, lb, lu, l, nl, _, _, e2, ns, _, rfl, cv2, r2.mono le02, ⟨trivial, by omega⟩, hc2, by rw [l2]; omega, by rw [m2]; omega, by omega, fun H3 rs3 qn3 kp3 hl3 rr3 hu3 rq3 => ?_⟩
      rw [l2, m2] at rr3
      have le3 : Le K H2 H3 := kp3.le cv2.hl cv2.hu
      walk_at "w"
      refine k _ (rs1 ++ ([.ref q1] ++ rs3)) (qn1 ++ qn3) ((kp01.trans kp2).trans kp3) ?_ ?_ ?_ ?_
      · rw [hl3]
        simp only [List.append_assoc]
      · simp only [E.val]
        rw [← len1, ← lq1]
        exact Reps.append ((rr1.mono le2).mono le3) (Reps.append (Reps.one (Rep.mk (le3 _ _ hr2) (Reps.cons rfl rfl))) rr3)
      · rw [hu3]
        simp only [List.append_assoc]
      · exact QReps.app ((rq1.mono le2 kp2).mono le3 kp3) rq3
    | ite e1 e2 e3 =>
      obtain ⟨ar, us, rfl, har⟩ : ∃ a us, ve = .ref a ∧ SqT K H a (V.str "if" :: us) := rep_hd re
      walk_at "w"
      refine ⟨_, _, _, rfl, rfl, T.leaves, T.lv_no "if" (by simp), ?_⟩
      walk_at "w"
      refine ⟨x, dx, lb, lu, l, nl, qvs, vs0, _, ns, _, rfl, cv.same (by walk_at "sm"), re0.mono (by walk_at "le"), ⟨⟨e1, e2, e3, rfl⟩, hd⟩, hc, z1, z2, z3, fun H1 rs1 qn1 kp1 hl1 rr1 hu1 rq1 => ?_⟩
      walk_at "w"
      exact k _ rs1 qn1 ((Kp.same (by walk_at "sm")).trans kp1) hl1 rr1 hu1 rq1
    | call e1 e2 =>
      obtain ⟨ar, us, rfl, har⟩ : ∃ a us, ve = .ref a ∧ SqT K H a (V.str "call" :: us) := rep_hd re
      walk_at "w"
      refine ⟨_, _, _, rfl, rfl, T.leaves, T.lv_no "call" (by simp), ?_⟩
      walk_at "w"
      refine ⟨x, dx, lb, lu, l, nl, qvs, vs0, _, ns, _, rfl, cv.same (by walk_at "sm"), re0.mono (by walk_at "le"), ⟨.inl ⟨e1, e2, .inl rfl⟩, hd⟩, hc, z1, z2, z3, fun H1 rs1 qn1 kp1 hl1 rr1 hu1 rq1 => ?_⟩
      walk_at "w"
      exact k _ rs1 qn1 ((Kp.same (by walk_at "sm")).trans kp1) hl1 rr1 hu1 rq1
    | pair e1 e2 =>
      obtain ⟨ar, us, rfl, har⟩ : ∃ a us, ve = .ref a ∧ SqT K H a (V.str "pair" :: us) := rep_hd re
      walk_at "w"
      refine ⟨_, _, _, rfl, rfl, T.leaves, T.lv_no "pair" (by simp), ?_⟩
      walk_at "w"
      refine ⟨x, dx, lb, lu, l, nl, qvs, vs0, _, ns, _, rfl, cv.same (by walk_at "sm"), re0.mono (by walk_at "le"), ⟨.inl ⟨e1, e2, .inr rfl⟩, hd⟩, hc, z1, z2, z3, fun H1 rs1 qn1 kp1 hl1 rr1 hu1 rq1 => ?_⟩
      walk_at "w"
      exact k _ rs1 qn1 ((Kp.same (by walk_at "sm")).trans kp1) hl1 rr1 hu1 rq1
    | op sg e1 e2 =>
      obtain ⟨ar, us, rfl, har⟩ : ∃ a us, ve = .ref a ∧ SqT K H a (V.str "op" :: us) := rep_hd re
      walk_at "w"
      refine ⟨_, _, _, rfl, rfl, T.leaves, T.lv_no "op" (by simp), ?_⟩
      walk_at "w"
      refine ⟨x, dx, lb, lu, l, nl, qvs, vs0, _, ns, _, rfl, cv.same (by walk_at "sm"), re0.mono (by walk_at "le"), ⟨.inr (.inl ⟨sg, e1, e2, rfl⟩), hd⟩, hc, z1, z2, z3, fun H1 rs1 qn1 kp1 hl1 rr1 hu1 rq1 => ?_⟩
      walk_at "w"
      exact k _ rs1 qn1 ((Kp.same (by walk_at "sm")).trans kp1) hl1 rr1 hu1 rq1
    | ask op e1 =>
      obtain ⟨ar, us, rfl, har⟩ : ∃ a us, ve = .ref a ∧ SqT K H a (V.str "ask" :: us) := rep_hd re
      walk_at "w"
      refine ⟨_, _, _, rfl, rfl, T.leaves, T.lv_no "ask" (by simp), ?_⟩
      walk_at "w"
      refine ⟨x, dx, lb, lu, l, nl, qvs, vs0, _, ns, _, rfl, cv.same (by walk_at "sm"), re0.mono (by walk_at "le"), ⟨.inr (.inr ⟨op, e1, rfl⟩), hd⟩, hc, z1, z2, z3, fun H1 rs1 qn1 kp1 hl1 rr1 hu1 rq1 => ?_⟩
      walk_at "w"
      exact k _ rs1 qn1 ((Kp.same (by walk_at "sm")).trans kp1) hl1 rr1 hu1 rq1

end
set_option maxRecDepth 100000
set_option maxHeartbeats 400000
section
variable {P : Program} {w : World} {K : PySem.W.Frag} {mg : Str → Option Value} {base : Heap}

theorem E.dep_pos (e : E) : 0 < e.dep := by cases e <;> simp [E.dep]
theorem ok_value0 (T : Txt w K mg) : C8.Met P w K mg base 1 (He.ga K "Compiler") "value" (sp_val K 0) [] := by
  refine metD (k := 0) T.cCompiler T.mCompiler_value T.f_Compiler_value sc_Compiler_value (fun _ _ _ _ _ _ us hl => match us, hl with | [_, _, _, _], _ => rfl) (fun vs H Q Ex h => ?_) (fun cdv A outer s H vs Q Ex hr h => ?_)
  · obtain ⟨x, dx, lb, lu, l, nl, qvs, vs0, e, ns, ve, rfl, _⟩ := h
    rfl
  · obtain ⟨x, dx, lb, lu, l, nl, qvs, vs0, e, ns, ve, rfl, cv, re, hd, hc, z1, z2, z3, k⟩ := h
    have := E.dep_pos e
    exact absurd hd.2 (by omega)
theorem ok_value (T : Txt w K mg) (m_Compiler_block : C8.Met P w K mg base 1 (He.ga K "Compiler") "block" (sp_block K) []) : ∀ n, C8.Met P w K mg base (2 * n + 1) (He.ga K "Compiler") "value" (sp_val K n) []
  | 0 => ok_value0 T
  | n + 1 => ok_value_s T (2 * n + 1) n m_Compiler_block (ok_value T m_Compiler_block n) (ok_choice T (2 * n + 1) n (ok_value T m_Compiler_block n)) (ok_simple T (2 * n + 1) n (ok_value T m_Compiler_block n))
theorem E.last_len : ∀ (e : E) (ns : List Nm) (p q : Nat), (e.last ns p q).length ≤ 3 * e.size + 1
  | .num i, ns, p, q => by have := E.val_len (.num i) ns p q; simp only [E.last, List.length_append, List.length_cons, List.length_nil]; omega
  | .unit, ns, p, q => by have := E.val_len .unit ns p q; simp only [E.last, List.length_append, List.length_cons, List.length_nil]; omega
  | .name i, ns, p, q => by have := E.val_len (.name i) ns p q; simp only [E.last, List.length_append, List.length_cons, List.length_nil]; omega
  | .quoted i, ns, p, q => by have := E.val_len (.quoted i) ns p q; simp only [E.last, List.length_append, List.length_cons, List.length_nil]; omega
  | .fn a b, ns, p, q => by have := E.val_len (.fn a b) ns p q; simp only [E.last, List.length_append, List.length_cons, List.length_nil]; omega
  | .rc a b c, ns, p, q => by have := E.val_len (.rc a b c) ns p q; simp only [E.last, List.length_append, List.length_cons, List.length_nil]; omega
  | .pair a b, ns, p, q => by have := E.val_len (.pair a b) ns p q; simp only [E.last, List.length_append, List.length_cons, List.length_nil]; omega
  | .op a b c, ns, p, q => by have := E.val_len (.op a b c) ns p q; simp only [E.last, List.length_append, List.length_cons, List.length_nil]; omega
  | .ask a b, ns, p, q => by have := E.val_len (.ask a b) ns p q; simp only [E.last, List.length_append, List.length_cons, List.length_nil]; omega
  | .call e f, ns, p, q => by
    have h1 := E.val_len e ns p q
    have h2 := E.val_len f ns (p + (e.val ns p q).length) (q + (e.qs ns).length)
    simp only [E.last, E.size, List.length_append, List.length_cons, List.length_nil]
    omega
  | .lt x e f, ns, p, q => by
    have h1 := E.val_len e ns p q
    have h3 := E.last_len f (ns ++ [x]) (p + (e.val ns p q).length + 1) (q + (e.qs ns).length)
    simp only [E.last, E.size, List.length_append, List.length_cons, List.length_nil]
    omega
  | .print e f, ns, p, q => by
    have h1 := E.val_len e ns p q
    have h3 := E.last_len f ns (p + (e.val ns p q).length + 1) (q + (e.qs ns).length)
    simp only [E.last, E.size, List.length_append, List.length_cons, List.length_nil]
    omega
  | .ite e f g, ns, p, q => by
    have h1 := E.val_len e ns p q
    have h2 := E.last_len f ns (p + (e.val ns p q).length + 1) (q + (e.qs ns).length)
    have h3 := E.last_len g ns (p + (e.val ns p q).length + 1 + (f.last ns (p + (e.val ns p q).length + 1) (q + (e.qs ns).length)).length) (q + (e.qs ns).length + (f.qs ns).length)
    simp only [E.last, E.size, List.length_append, List.length_cons, List.length_nil]
    omega
def sp_last (K : PySem.W.Frag) (n : Nat) : Sp := fun vs H Q _ => ∃ (x dx lb lu l nl : Addr) (qvs vs0 : List V) (e : E) (ns : List Nm) (ve : V), vs = [.ref x, .ref l, ve, .ref nl] ∧ CvAt K H x dx lb lu l nl qvs vs0 ns ∧ Rep K H e.d ve ∧ (True ∧ e.dep ≤ n) ∧ e.clo ns ∧ vs0.length + 3 * e.size + 1 ≤ 50000 ∧ qvs.length + e.size ≤ 50000 ∧ ns.length + 2 * e.dep ≤ 500 ∧
  ∀ H' rs qn, Kp H H' l lu → H' l = some (.lst (vs0 ++ rs)) → Reps K H' (e.last ns vs0.length qvs.length) rs → H' lu = some (.lst (qvs ++ qn)) → QReps K H' l lu (e.qs ns) qn → Q .non H'
abbrev nm_Compiler_last : List Str := ["self", "rows", "expression", "names", "head", "unless"]
theorem sc_Compiler_last : FnScope nm_Compiler_last ["self", "rows", "expression", "names"] (defScope s_Compiler_last) := ⟨rfl, rfl, rfl, by decide +kernel, rfl, by decide +kernel, by decide +kernel⟩
theorem st_Compiler_last {a0 a1 a2 a3 : V} : L2.start nm_Compiler_last [a0, a1, a2, a3] = [some a0, some a1, some a2, some a3, none, none] := rfl

theorem b_ok_last_s (T : Txt w K mg) (k kv n m : Nat) (hkv : kv ≤ k) (hnm : n + 1 ≤ m) (m_Compiler_value : C8.Met P w K mg base kv (He.ga K "Compiler") "value" (sp_val K m) []) (m_Compiler_last : C8.Met P w K mg base k (He.ga K "Compiler") "last" (sp_last K n) []) : Body P w K mg base nm_Compiler_last "Compiler.last" s_Compiler_last k (He.ma K (He.ga K "Compiler") "last") (sp_last K (n + 1)) := by
  refine fun cdv A outer s H vs Q Ex hr h => ⟨_, (pss_cons (ps_set (i := 4) sc_Compiler_last.nd rfl (by first | exact Or.inl rfl | exact Or.inr rfl) (pe_ix ix_2 (pv 2) pe_int (fun _ _ => rfl))) (pss_one (ps_if (pt_cmpR op_eq (pv 4) pe_str (by rfl)) (pss_cons (ps_expr (C8.pe_mt m_Compiler_value hr (by omega) (pv 0) (pa_cons (pv 1) (pa_cons (pe_ix ix_2 (pv 2) pe_int (fun _ _ => rfl)) (pa_cons (pv 3) pa_nil))))) (pss_cons (ps_expr (C8.pe_mt m_Compiler_value hr (by omega) (pv 0) (pa_cons (pv 1) (pa_cons (pe_ix ix_2 (pv 2) pe_int (fun _ _ => rfl)) (pa_cons (pv 3) pa_nil))))) (pss_one (ps_expr (pe_bm PySem.F.plainAttrs_list PySem.F.slot_list_append PySem.F.type_list_append mt_append (pv 1) (pa_cons (pe_tup (pa_cons pe_str pa_nil)) pa_nil)))))) (pss_one (ps_if (pt_cmpR op_eq (pv 4) pe_str (by rfl)) (pss_cons (ps_expr (C8.pe_mt m_Compiler_value hr (by omega) (pv 0) (pa_cons (pv 1) (pa_cons (pe_ix ix_2 (pv 2) pe_int (fun _ _ => rfl)) (pa_cons (pv 3) pa_nil))))) (pss_cons (ps_expr (pe_bm PySem.F.plainAttrs_list PySem.F.slot_list_append PySem.F.type_list_append mt_append (pv 1) (pa_cons (pe_tup (pa_cons pe_str pa_nil)) pa_nil))) (pss_one (ps_expr (C8.pe_mt m_Compiler_last hr (by omega) (pv 0) (pa_cons (pv 1) (pa_cons (pe_ix ix_2 (pv 2) pe_int (fun _ _ => rfl)) (pa_cons (pe_op op_plus (pv 3) (pe_lst (pa_cons (pe_ix ix_2 (pv 2) pe_int (fun _ _ => rfl)) pa_nil))) pa_nil)))))))) (pss_one (ps_if (pt_cmpR op_eq (pv 4) pe_str (by rfl)) (pss_cons (ps_expr (C8.pe_mt m_Compiler_value hr (by omega) (pv 0) (pa_cons (pv 1) (pa_cons (pe_ix ix_2 (pv 2) pe_int (fun _ _ => rfl)) (pa_cons (pv 3) pa_nil))))) (pss_cons (ps_expr (pe_bm PySem.F.plainAttrs_list PySem.F.slot_list_append PySem.F.type_list_append mt_append (pv 1) (pa_cons (pe_tup (pa_cons pe_str pa_nil)) pa_nil))) (pss_one (ps_expr (C8.pe_mt m_Compiler_last hr (by omega) (pv 0) (pa_cons (pv 1) (pa_cons (pe_ix ix_2 (pv 2) pe_int (fun _ _ => rfl)) (pa_cons (pv 3) pa_nil)))))))) (pss_one (ps_if (pt_cmpR op_eq (pv 4) pe_str (by rfl)) (pss_cons (ps_expr (C8.pe_mt m_Compiler_value hr (by omega) (pv 0) (pa_cons (pv 1) (pa_cons (pe_ix ix_2 (pv 2) pe_int (fun _ _ => rfl)) (pa_cons (pv 3) pa_nil))))) (pss_cons (ps_set (i := 5) sc_Compiler_last.nd rfl (by first | exact Or.inl rfl | exact Or.inr rfl) (pe_callB call_len2 (by rfl) T.z_len PySem.boot_len (pa_cons (pv 1) pa_nil))) (pss_cons (ps_expr (pe_bm PySem.F.plainAttrs_list PySem.F.slot_list_append PySem.F.type_list_append mt_append (pv 1) (pa_cons (pe_tup (pa_cons pe_str (pa_cons pe_int pa_nil))) pa_nil))) (pss_cons (ps_expr (C8.pe_mt m_Compiler_last hr (by omega) (pv 0) (pa_cons (pv 1) (pa_cons (pe_ix ix_2 (pv 2) pe_int (fun _ _ => rfl)) (pa_cons (pv 3) pa_nil))))) (pss_cons (ps_asg (pe_tup (pa_cons pe_str (pa_cons (pe_callB call_len2 (by rfl) T.z_len PySem.boot_len (pa_cons (pv 1) pa_nil)) pa_nil))) (pg_sub (pv 1) (pv 5) set_list)) (pss_one (ps_expr (C8.pe_mt m_Compiler_last hr (by omega) (pv 0) (pa_cons (pv 1) (pa_cons (pe_ix ix_2 (pv 2) pe_int (fun _ _ => rfl)) (pa_cons (pv 3) pa_nil))))))))))) (pss_cons (ps_expr (C8.pe_mt m_Compiler_value hr (by omega) (pv 0) (pa_cons (pv 1) (pa_cons (pv 2) (pa_cons (pv 3) pa_nil))))) (pss_one (ps_expr (pe_bm PySem.F.plainAttrs_list PySem.F.slot_list_append PySem.F.type_list_append mt_append (pv 1) (pa_cons (pe_tup (pa_cons pe_str pa_nil)) pa_nil)))))))))))))), ?_⟩
  · obtain ⟨x, dx, lb, lu, l, nl, qvs, vs0, e, ns, ve, rfl, cv, re, hd, hc, z1, z2, z3, k⟩ := h
    rw [st_Compiler_last]
    obtain ⟨_, hd⟩ := hd
    have ho := cv.ho
    have hl := cv.hl
    have hn := cv.hn
    have zl : vs0.length ≤ 100000 := by omega
    have ln := nmV_len ns
    have nl0 := cv.n1
    have re0 := re
    cases e with
    | quoted q => exact hc.elim
    | call e1 e2 =>
      obtain ⟨hc1, hc2⟩ := hc
      simp only [E.dep, E.size] at hd z1 z2 z3
      obtain ⟨ar, _, rfl, har, _, _, rfl, rfl, _, _, rfl, r1, _, _, rfl, r2, rfl⟩ := re
      have t1 := E.val_len e1 ns vs0.length qvs.length
      have t2 := E.qs_len e1 ns
      walk_at "w"
      refine ⟨x, dx, lb, lu, l, nl, _, _, e1, ns, _, rfl, cv, r1, ⟨trivial, by omega⟩, hc1, by omega, by omega, by omega, fun H1 rs1 qn1 kp1 hl1 rr1 hu1 rq1 => ?_⟩
      have cv1 := cv.next kp1 hl1 hu1
      have le1 : Le K H H1 := kp1.le cv.hl cv.hu
      have ho1 := cv1.ho
      have len1 := rr1.length
      have lq1 := rq1.len
      walk_at "w"
      refine ⟨x, dx, lb, lu, l, nl, _, _, e2, ns, _, rfl, cv1, r2.mono le1, ⟨trivial, by omega⟩, hc2, by rw [List.length_append]; omega, by rw [List.length_append]; omega, by omega, fun H2 rs2 qn2 kp2 hl2 rr2 hu2 rq2 => ?_⟩
      rw [List.length_append, List.length_append] at rr2
      have cv2 := cv1.next kp2 hl2 hu2
      have le2 : Le K H1 H2 := kp2.le cv1.hl cv1.hu
      have len2 := rr2.length
      have t3 := E.val_len e2 ns (vs0.length + rs1.length) (qvs.length + qn1.length)
      have zr : (vs0 ++ rs1 ++ rs2).length ≤ 100000 := by rw [List.length_append, List.length_append]; omega
      walk_at "w"
      rename_i qr hqr
      have s3 := Same.new (o := HO.tup [V.str "tail"]) (Same.refl _) hqr
      have cv3 := cv2.same s3
      have kp3 := (Kp.same (l := l) (lu := lu) s3).trans (cv3.kpush (o := .lst ((vs0 ++ rs1 ++ rs2) ++ [V.ref qr])))
      have le3 := Kp.le (K := K) kp3 cv2.hl cv2.hu
      refine k _ (rs1 ++ rs2 ++ [.ref qr]) (qn1 ++ qn2) ((kp1.trans kp2).trans kp3) ?_ ?_ ?_ ?_
      · rw [upd_same]
        simp only [List.append_assoc]
      · simp only [E.last]
        rw [← len1, ← lq1]
        exact Reps.append (Reps.append ((rr1.mono le2).mono le3) (rr2.mono le3)) (Reps.one (Rep.mk (cv3.kpush.le cv3.hl cv3.hu _ _ (sqt_of (K := K) upd_same)) (Reps.cons rfl rfl)))
      · rw [cv3.push.hu]
        simp only [List.append_assoc]
      · exact QReps.app ((rq1.mono le2 kp2).mono le3 kp3) (rq2.mono le3 kp3)
    | lt y e1 e2 =>
      obtain ⟨hc1, hc2⟩ := hc
      simp only [E.dep, E.size] at hd z1 z2 z3
      obtain ⟨ar, _, rfl, har, _, _, rfl, rfl, _, _, rfl, rfl, _, _, rfl, r1, _, _, rfl, r2, rfl⟩ := re
      have t1 := E.val_len e1 ns vs0.length qvs.length
      have t2 := E.qs_len e1 ns
      walk_at "w"
      refine ⟨x, dx, lb, lu, l, nl, _, _, e1, ns, _, rfl, cv, r1, ⟨trivial, by omega⟩, hc1, by omega, by omega, by omega, fun H1 rs1 qn1 kp1 hl1 rr1 hu1 rq1 => ?_⟩
      have cv1 := cv.next kp1 hl1 hu1
      have le1 : Le K H H1 := kp1.le cv.hl cv.hu
      have ho1 := cv1.ho
      have len1 := rr1.length
      have lq1 := rq1.len
      have zr : (vs0 ++ rs1).length ≤ 100000 := by rw [List.length_append]; omega
      have hn1 := cv1.hn
      walk_at "w"
      rename_i q1 hq1 q2 hq2 q3 hq3
      have s1 := Same.new (o := HO.tup [V.str "bind"]) (Same.refl _) hq1
      have kp2 := (Kp.same (l := l) (lu := lu) s1).trans ((cv1.same s1).kpush (o := .lst ((vs0 ++ rs1) ++ [V.ref q1])))
      have cv2 := (cv1.same s1).push (v := .ref q1)
      have hr2 : SqT K (upd (upd H1 q1 (HO.tup [V.str "bind"])) l (HO.lst ((vs0 ++ rs1) ++ [V.ref q1]))) q1 [V.str "bind"] := (cv1.same s1).kpush.le (cv1.same s1).hl (cv1.same s1).hu _ _ (sqt_of (K := K) upd_same)
      generalize hH2 : upd (upd H1 q1 (HO.tup [V.str "bind"])) l (HO.lst ((vs0 ++ rs1) ++ [V.ref q1])) = H2 at cv2 kp2 hr2 hq2 hq3 ⊢
      have le2 := Kp.le (K := K) kp2 cv1.hl cv1.hu
      have l2 : ((vs0 ++ rs1) ++ [V.ref q1]).length = vs0.length + rs1.length + 1 := by simp only [List.length_append, List.length_cons, List.length_nil]
      have m2 : (qvs ++ qn1).length = qvs.length + qn1.length := List.length_append
      have nq3 : H2 q3 = none := free_new hq3
      have sA : Same H2 (upd (upd H2 q2 (HO.lst [V.str y.str])) q3 (HO.lst (nmV ns ++ [V.str y.str]))) := Same.new (Same.new (Same.refl _) hq2) hq3
      have e3 : nmV ns ++ [V.str y.str] = nmV (ns ++ [y]) := nmV_app ns [y]
      have cv3 := (cv2.same sA).names (nl' := q3) (ns' := ns ++ [y]) (by rw [← e3]; exact upd_same) (ne_of_none cv2.hl nq3).symm (ne_of_none cv2.hu nq3).symm
      have leA := Le.same (K := K) sA
      have le02 := (le1.trans le2).trans leA
      have ho3 := cv3.ho
      refine ⟨x, dx, lb, lu, l, q3, _, _, e2, ns ++ [y], _, rfl, cv3, r2.mono le02, ⟨trivial, by omega⟩, hc2, by rw [l2]; omega, by rw [m2]; omega, by rw [List.length_append, List.length_singleton]; omega, fun H3 rs3 qn3 kp3 hl3 rr3 hu3 rq3 => ?_⟩
      rw [l2, m2] at rr3
      have le3 : Le K _ H3 := kp3.le cv3.hl cv3.hu
      walk_at "w"
      have kpA := (Kp.same (l := l) (lu := lu) sA).trans kp3
      have leA3 := leA.trans le3
      refine k _ (rs1 ++ ([.ref q1] ++ rs3)) (qn1 ++ qn3) ((kp1.trans kp2).trans kpA) ?_ ?_ ?_ ?_
      · rw [hl3]
        simp only [List.append_assoc]
      · simp only [E.last]
        rw [← len1, ← lq1]
        exact Reps.append ((rr1.mono le2).mono leA3) (Reps.append (Reps.one (Rep.mk (leA3 _ _ hr2) (Reps.cons rfl rfl))) rr3)
      · rw [hu3]
        simp only [List.append_assoc]
      · exact QReps.app ((rq1.mono le2 kp2).mono leA3 kpA) rq3
    | print e1 e2 =>
      obtain ⟨hc1, hc2⟩ := hc
      simp only [E.dep, E.size] at hd z1 z2 z3
      obtain ⟨ar, _, rfl, har, _, _, rfl, rfl, _, _, rfl, r1, _, _, rfl, r2, rfl⟩ := re
      have t1 := E.val_len e1 ns vs0.length qvs.length
      have t2 := E.qs_len e1 ns
      walk_at "w"
      have s0 : Same H H := Same.refl _
      have cv0 := cv
      refine ⟨x, dx, lb, lu, l, nl, _, _, e1, ns, _, rfl, cv0, r1.mono (Le.same s0), ⟨trivial, by omega⟩, hc1, by omega, by omega, by omega, fun H1 rs1 qn1 kp1 hl1 rr1 hu1 rq1 => ?_⟩
      have cv1 := cv0.next kp1 hl1 hu1
      have le1 : Le K H H1 := (Le.same s0).trans (kp1.le cv0.hl cv0.hu)
      have kp01 := (Kp.same (l := l) (lu := lu) s0).trans kp1
      have ho1 := cv1.ho
      have len1 := rr1.length
      have lq1 := rq1.len
      have zr : (vs0 ++ rs1).length ≤ 100000 := by rw [List.length_append]; omega
      walk_at "w"
      rename_i q1 hq1
      have s1 := Same.new (o := HO.tup [V.str "print"]) (Same.refl _) hq1
      have kp2 := (Kp.same (l := l) (lu := lu) s1).trans ((cv1.same s1).kpush (o := .lst ((vs0 ++ rs1) ++ [V.ref q1])))
      have cv2 := (cv1.same s1).push (v := .ref q1)
      have hr2 : SqT K (upd (upd H1 q1 (HO.tup [V.str "print"])) l (HO.lst ((vs0 ++ rs1) ++ [V.ref q1]))) q1 [V.str "print"] := (cv1.same s1).kpush.le (cv1.same s1).hl (cv1.same s1).hu _ _ (sqt_of (K := K) upd_same)
      generalize hH2 : upd (upd H1 q1 (HO.tup [V.str "print"])) l (HO.lst ((vs0 ++ rs1) ++ [V.ref q1])) = H2 at cv2 kp2 hr2 ⊢
      have le2 := Kp.le (K := K) kp2 cv1.hl cv1.hu
      have l2 : ((vs0 ++ rs1) ++ [V.ref q1]).length = vs0.length + rs1.length + 1 := by simp only [List.length_append, List.length_cons, List.length_nil]
      have m2 : (qvs ++ qn1).length = qvs.length + qn1.length := List.length_append
      have ho2 := cv2.ho
      have le02 := le1.trans le2
      walk_at "w"
      refine ⟨x, dx, lb, lu, l, nl, _, _, e2, ns, _, rfl, cv2, r2.mono le02, ⟨trivial, by omega⟩, hc2, by rw [l2]; omega, by rw [m2]; omega, by omega, fun H3 rs3 qn3 kp3 hl3 rr3 hu3 rq3 => ?_⟩
      rw [l2, m2] at rr3
      have le3 : Le K H2 H3 := kp3.le cv2.hl cv2.hu
      walk_at "w"
      refine k _ (rs1 ++ ([.ref q1] ++ rs3)) (qn1 ++ qn3) ((kp01.trans kp2).trans kp3) ?_ ?_ ?_ ?_
      · rw [hl3]
        simp only [List.append_assoc]
      · simp only [E.last]
        rw [← len1, ← lq1]
        exact Reps.append ((rr1.mono le2).mono le3) (Reps.append (Reps.one (Rep.mk (le3 _ _ hr2) (Reps.cons rfl rfl))) rr3)
      · rw [hu3]
        simp only [List.append_assoc]
      · exact QReps.app ((rq1.mono le2 kp2).mono le3 kp3) rq3
    | ite e1 e2 e3 =>
      obtain ⟨hc1, hc2, hc3⟩ := hc
      simp only [E.dep, E.size] at hd z1 z2 z3
      obtain ⟨ar, _, rfl, har, _, _, rfl, rfl, _, _, rfl, r1, _, _, rfl, r2, _, _, rfl, r3, rfl⟩ := re
      have t1 := E.val_len e1 ns vs0.length qvs.length
      have t2 := E.qs_len e1 ns
      walk_at "w"
      refine ⟨x, dx, lb, lu, l, nl, _, _, e1, ns, _, rfl, cv, r1, ⟨trivial, by omega⟩, hc1, by omega, by omega, by omega, fun H1 rs1 qn1 kp1 hl1 rr1 hu1 rq1 => ?_⟩
      have cv1 := cv.next kp1 hl1 hu1
      have le1 : Le K H H1 := kp1.le cv.hl cv.hu
      have ho1 := cv1.ho
      have len1 := rr1.length
      have lq1 := rq1.len
      have zr : (vs0 ++ rs1).length ≤ 100000 := by rw [List.length_append]; omega
      walk_at "w"
      rename_i q1 hq1
      have s1 : Same H1 (upd H1 q1 (HO.tup [V.str "unless", V.int 0])) := Same.new (Same.refl _) hq1
      have cv2 := (cv1.same s1).push (v := .ref q1)
      have kp2 : Kp H1 (upd (upd H1 q1 (HO.tup [V.str "unless", V.int 0])) l (HO.lst ((vs0 ++ rs1) ++ [V.ref q1]))) l lu := (Kp.same s1).trans (cv1.same s1).kpush
      have t4 := E.qs_len e2 ns
      have l2 : ((vs0 ++ rs1) ++ [V.ref q1]).length = vs0.length + rs1.length + 1 := by simp only [List.length_append, List.length_cons, List.length_nil]
      have m2 : (qvs ++ qn1).length = qvs.length + qn1.length := List.length_append
      generalize hH2 : upd (upd H1 q1 (HO.tup [V.str "unless", V.int 0])) l (HO.lst ((vs0 ++ rs1) ++ [V.ref q1])) = H2 at cv2 kp2 ⊢
      have le12 := Kp.le (K := K) kp2 cv1.hl cv1.hu
      have le2 := le1.trans le12
      have rq2 := rq1.mono le12 kp2
      have kp02 := kp1.trans kp2
      have ho2 := cv2.ho
      have t3 := E.last_len e2 ns (vs0.length + rs1.length + 1) (qvs.length + qn1.length)
      walk_at "w"
      refine ⟨x, dx, lb, lu, l, nl, _, _, e2, ns, _, rfl, cv2, r2.mono le2, ⟨trivial, by omega⟩, hc2, by rw [l2]; omega, by rw [m2]; omega, by omega, fun H3 rs3 qn3 kp3 hl3 rr3 hu3 rq3 => ?_⟩
      rw [l2, m2] at rr3
      have cv3 := cv2.next kp3 hl3 hu3
      have le23 : Le K H2 H3 := kp3.le cv2.hl cv2.hu
      have ho3 := cv3.ho
      have hl3' := cv3.hl
      have len3 := rr3.length
      have lq3 := rq3.len
      clear hH2
      walk_at "w"
      rename_i q3 hq3
      have s3 := Same.new (o := HO.tup [V.str "unless", V.int (((vs0 ++ rs1 ++ [V.ref q1]) ++ rs3).length : Nat)]) (Same.refl _) hq3
      have cv5 := cv3.same s3
      have el : vs0 ++ rs1 ++ [V.ref q1] ++ rs3 = (vs0 ++ rs1) ++ ([V.ref q1] ++ rs3) := by simp only [List.append_assoc]
      refine w_setL cv5.hl (by rw [el]; exact ixN_mid) ?_
      have kp6 := (Kp.same (l := l) (lu := lu) s3).trans (cv5.kpush (o := .lst ((vs0 ++ rs1 ++ [V.ref q1] ++ rs3).set (vs0 ++ rs1).length (.ref q3))))
      have cv6 := cv5.setl (vs1 := (vs0 ++ rs1 ++ [V.ref q1] ++ rs3).set (vs0 ++ rs1).length (.ref q3))
      have ht6 := (cv5.kpush (o := .lst ((vs0 ++ rs1 ++ [V.ref q1] ++ rs3).set (vs0 ++ rs1).length (.ref q3)))).le cv5.hl cv5.hu _ _ (sqt_of (K := K) upd_same)
      have lu6 : (((vs0 ++ rs1 ++ [V.ref q1]) ++ rs3).length : Nat) = vs0.length + rs1.length + 1 + rs3.length := by simp only [List.length_append, List.length_cons, List.length_nil]
      generalize hH6 : upd (upd H3 q3 (HO.tup [V.str "unless", V.int ((vs0 ++ rs1 ++ [V.ref q1] ++ rs3).length : Nat)])) l (HO.lst ((vs0 ++ rs1 ++ [V.ref q1] ++ rs3).set (vs0 ++ rs1).length (.ref q3))) = H6 at cv6 kp6 ht6 ⊢
      rw [el, set_mid] at cv6
      rw [lu6] at ht6
      have l6 : ((vs0 ++ rs1) ++ ([V.ref q3] ++ rs3)).length = vs0.length + rs1.length + 1 + rs3.length := by
        simp only [List.length_append, List.length_cons, List.length_nil]
        omega
      have m6 : (qvs ++ qn1 ++ qn3).length = qvs.length + qn1.length + qn3.length := by rw [List.length_append, List.length_append]
      have les6 := Kp.le (K := K) kp6 cv3.hl cv3.hu
      have le6 := (le2.trans le23).trans les6
      have ho6 := cv6.ho
      clear hH6
      walk_at "w"
      refine ⟨x, dx, lb, lu, l, nl, _, _, e3, ns, _, rfl, cv6, r3.mono le6, ⟨trivial, by omega⟩, hc3, by rw [l6]; omega, by rw [m6]; omega, by omega, fun H7 rs7 qn7 kp7 hl7 rr7 hu7 rq7 => ?_⟩
      rw [l6, m6] at rr7
      have le67 : Le K H6 H7 := kp7.le cv6.hl cv6.hu
      walk_at "w"
      refine k _ (rs1 ++ ([V.ref q3] ++ (rs3 ++ rs7))) (qn1 ++ (qn3 ++ qn7)) (((kp02.trans kp3).trans kp6).trans kp7) ?_ ?_ ?_ ?_
      · rw [hl7]
        simp only [List.append_assoc]
      · simp only [E.last]
        rw [← len1, ← lq1, ← len3, ← lq3]
        refine Reps.append ((((rr1.mono le12).mono le23).mono les6).mono le67) (Reps.append (Reps.one ?_) (Reps.append ((rr3.mono les6).mono le67) rr7))
        exact Rep.mk (le67 _ _ ht6) (Reps.cons rfl (Reps.cons rfl rfl))
      · rw [hu7]
        simp only [List.append_assoc]
      · exact QReps.app (((rq2.mono le23 kp3).mono les6 kp6).mono le67 kp7) (QReps.app ((rq3.mono les6 kp6).mono le67 kp7) rq7)
    | num i =>
      obtain ⟨ar, us, rfl, har⟩ : ∃ a us, ve = .ref a ∧ SqT K H a (V.str "num" :: us) := rep_hd re
      walk_at "w"
      refine ⟨x, dx, lb, lu, l, nl, _, _, _, ns, _, rfl, cv, re0, ⟨trivial, by omega⟩, hc, by omega, z2, z3, fun H1 rs1 qn1 kp1 hl1 rr1 hu1 rq1 => ?_⟩
      have cv1 := cv.next kp1 hl1 hu1
      have len1 := rr1.length
      have t1 := E.val_len (E.num i) ns vs0.length qvs.length
      have zr : (vs0 ++ rs1).length ≤ 100000 := by rw [List.length_append]; omega
      walk_at "w"
      rename_i qr hqr
      have s3 := Same.new (o := HO.tup [V.str "return"]) (Same.refl _) hqr
      have cv3 := cv1.same s3
      have kp3 := (Kp.same (l := l) (lu := lu) s3).trans (cv3.kpush (o := .lst ((vs0 ++ rs1) ++ [V.ref qr])))
      have le3 := Kp.le (K := K) kp3 cv1.hl cv1.hu
      refine k _ (rs1 ++ [.ref qr]) qn1 (kp1.trans kp3) ?_ ?_ ?_ ?_
      · rw [upd_same]
        simp only [List.append_assoc]
      · exact Reps.append (rr1.mono le3) (Reps.one (Rep.mk (cv3.kpush.le cv3.hl cv3.hu _ _ (sqt_of (K := K) upd_same)) (Reps.cons rfl rfl)))
      · rw [cv3.push.hu]
      · exact rq1.mono le3 kp3
    | unit =>
      obtain ⟨ar, us, rfl, har⟩ : ∃ a us, ve = .ref a ∧ SqT K H a (V.str "unit" :: us) := rep_hd re
      walk_at "w"
      refine ⟨x, dx, lb, lu, l, nl, _, _, _, ns, _, rfl, cv, re0, ⟨trivial, by omega⟩, hc, by omega, z2, z3, fun H1 rs1 qn1 kp1 hl1 rr1 hu1 rq1 => ?_⟩
      have cv1 := cv.next kp1 hl1 hu1
      have len1 := rr1.length
      have t1 := E.val_len E.unit ns vs0.length qvs.length
      have zr : (vs0 ++ rs1).length ≤ 100000 := by rw [List.length_append]; omega
      walk_at "w"
      rename_i qr hqr
      have s3 := Same.new (o := HO.tup [V.str "return"]) (Same.refl _) hqr
      have cv3 := cv1.same s3
      have kp3 := (Kp.same (l := l) (lu := lu) s3).trans (cv3.kpush (o := .lst ((vs0 ++ rs1) ++ [V.ref qr])))
      have le3 := Kp.le (K := K) kp3 cv1.hl cv1.hu
      refine k _ (rs1 ++ [.ref qr]) qn1 (kp1.trans kp3) ?_ ?_ ?_ ?_
      · rw [upd_same]
        simp only [List.append_assoc]
      · exact Reps.append (rr1.mono le3) (Reps.one (Rep.mk (cv3.kpush.le cv3.hl cv3.hu _ _ (sqt_of (K := K) upd_same)) (Reps.cons rfl rfl)))
      · rw [cv3.push.hu]
      · exact rq1.mono le3 kp3
    | name y =>
      obtain ⟨ar, us, rfl, har⟩ : ∃ a us, ve = .ref a ∧ SqT K H a (V.str "name" :: us) := rep_hd re
      walk_at "w"
      refine ⟨x, dx, lb, lu, l, nl, _, _, _, ns, _, rfl, cv, re0, ⟨trivial, by omega⟩, hc, by omega, z2, z3, fun H1 rs1 qn1 kp1 hl1 rr1 hu1 rq1 => ?_⟩
      have cv1 := cv.next kp1 hl1 hu1
      have len1 := rr1.length
      have t1 := E.val_len (E.name y) ns vs0.length qvs.length
      have zr : (vs0 ++ rs1).length ≤ 100000 := by rw [List.length_append]; omega
      walk_at "w"
      rename_i qr hqr
      have s3 := Same.new (o := HO.tup [V.str "return"]) (Same.refl _) hqr
      have cv3 := cv1.same s3
      have kp3 := (Kp.same (l := l) (lu := lu) s3).trans (cv3.kpush (o := .lst ((vs0 ++ rs1) ++ [V.ref qr])))
      have le3 := Kp.le (K := K) kp3 cv1.hl cv1.hu
      refine k _ (rs1 ++ [.ref qr]) qn1 (kp1.trans kp3) ?_ ?_ ?_ ?_
      · rw [upd_same]
        simp only [List.append_assoc]
      · exact Reps.append (rr1.mono le3) (Reps.one (Rep.mk (cv3.kpush.le cv3.hl cv3.hu _ _ (sqt_of (K := K) upd_same)) (Reps.cons rfl rfl)))
      · rw [cv3.push.hu]
      · exact rq1.mono le3 kp3
    | fn y e1 =>
      obtain ⟨ar, us, rfl, har⟩ : ∃ a us, ve = .ref a ∧ SqT K H a (V.str "fun" :: us) := rep_hd re
      walk_at "w"
      refine ⟨x, dx, lb, lu, l, nl, _, _, _, ns, _, rfl, cv, re0, ⟨trivial, by omega⟩, hc, by omega, z2, z3, fun H1 rs1 qn1 kp1 hl1 rr1 hu1 rq1 => ?_⟩
      have cv1 := cv.next kp1 hl1 hu1
      have len1 := rr1.length
      have t1 := E.val_len (E.fn y e1) ns vs0.length qvs.length
      have zr : (vs0 ++ rs1).length ≤ 100000 := by rw [List.length_append]; omega
      walk_at "w"
      rename_i qr hqr
      have s3 := Same.new (o := HO.tup [V.str "return"]) (Same.refl _) hqr
      have cv3 := cv1.same s3
      have kp3 := (Kp.same (l := l) (lu := lu) s3).trans (cv3.kpush (o := .lst ((vs0 ++ rs1) ++ [V.ref qr])))
      have le3 := Kp.le (K := K) kp3 cv1.hl cv1.hu
      refine k _ (rs1 ++ [.ref qr]) qn1 (kp1.trans kp3) ?_ ?_ ?_ ?_
      · rw [upd_same]
        simp only [List.append_assoc]
      · exact Reps.append (rr1.mono le3) (Reps.one (Rep.mk (cv3.kpush.le cv3.hl cv3.hu _ _ (sqt_of (K := K) upd_same)) (Reps.cons rfl rfl)))
      · rw [cv3.push.hu]
      · exact rq1.mono le3 kp3
    | rc y1 y2 e1 =>
      obtain ⟨ar, us, rfl, har⟩ : ∃ a us, ve = .ref a ∧ SqT K H a (V.str "rec" :: us) := rep_hd re
      walk_at "w"
      refine ⟨x, dx, lb, lu, l, nl, _, _, _, ns, _, rfl, cv, re0, ⟨trivial, by omega⟩, hc, by omega, z2, z3, fun H1 rs1 qn1 kp1 hl1 rr1 hu1 rq1 => ?_⟩
      have cv1 := cv.next kp1 hl1 hu1
      have len1 := rr1.length
      have t1 := E.val_len (E.rc y1 y2 e1) ns vs0.length qvs.length
      have zr : (vs0 ++ rs1).length ≤ 100000 := by rw [List.length_append]; omega
      walk_at "w"
      rename_i qr hqr
      have s3 := Same.new (o := HO.tup [V.str "return"]) (Same.refl _) hqr
      have cv3 := cv1.same s3
      have kp3 := (Kp.same (l := l) (lu := lu) s3).trans (cv3.kpush (o := .lst ((vs0 ++ rs1) ++ [V.ref qr])))
      have le3 := Kp.le (K := K) kp3 cv1.hl cv1.hu
      refine k _ (rs1 ++ [.ref qr]) qn1 (kp1.trans kp3) ?_ ?_ ?_ ?_
      · rw [upd_same]
        simp only [List.append_assoc]
      · exact Reps.append (rr1.mono le3) (Reps.one (Rep.mk (cv3.kpush.le cv3.hl cv3.hu _ _ (sqt_of (K := K) upd_same)) (Reps.cons rfl rfl)))
      · rw [cv3.push.hu]
      · exact rq1.mono le3 kp3
    | pair e1 e2 =>
      obtain ⟨ar, us, rfl, har⟩ : ∃ a us, ve = .ref a ∧ SqT K H a (V.str "pair" :: us) := rep_hd re
      walk_at "w"
      refine ⟨x, dx, lb, lu, l, nl, _, _, _, ns, _, rfl, cv, re0, ⟨trivial, by omega⟩, hc, by omega, z2, z3, fun H1 rs1 qn1 kp1 hl1 rr1 hu1 rq1 => ?_⟩
      have cv1 := cv.next kp1 hl1 hu1
      have len1 := rr1.length
      have t1 := E.val_len (E.pair e1 e2) ns vs0.length qvs.length
      have zr : (vs0 ++ rs1).length ≤ 100000 := by rw [List.length_append]; omega
      walk_at "w"
      rename_i qr hqr
      have s3 := Same.new (o := HO.tup [V.str "return"]) (Same.refl _) hqr
      have cv3 := cv1.same s3
      have kp3 := (Kp.same (l := l) (lu := lu) s3).trans (cv3.kpush (o := .lst ((vs0 ++ rs1) ++ [V.ref qr])))
      have le3 := Kp.le (K := K) kp3 cv1.hl cv1.hu
      refine k _ (rs1 ++ [.ref qr]) qn1 (kp1.trans kp3) ?_ ?_ ?_ ?_
      · rw [upd_same]
        simp only [List.append_assoc]
      · exact Reps.append (rr1.mono le3) (Reps.one (Rep.mk (cv3.kpush.le cv3.hl cv3.hu _ _ (sqt_of (K := K) upd_same)) (Reps.cons rfl rfl)))
      · rw [cv3.push.hu]
      · exact rq1.mono le3 kp3
    | op sg e1 e2 =>
      obtain ⟨ar, us, rfl, har⟩ : ∃ a us, ve = .ref a ∧ SqT K H a (V.str "op" :: us) := rep_hd re
      walk_at "w"
      refine ⟨x, dx, lb, lu, l, nl, _, _, _, ns, _, rfl, cv, re0, ⟨trivial, by omega⟩, hc, by omega, z2, z3, fun H1 rs1 qn1 kp1 hl1 rr1 hu1 rq1 => ?_⟩
      have cv1 := cv.next kp1 hl1 hu1
      have len1 := rr1.length
      have t1 := E.val_len (E.op sg e1 e2) ns vs0.length qvs.length
      have zr : (vs0 ++ rs1).length ≤ 100000 := by rw [List.length_append]; omega
      walk_at "w"
      rename_i qr hqr
      have s3 := Same.new (o := HO.tup [V.str "return"]) (Same.refl _) hqr
      have cv3 := cv1.same s3
      have kp3 := (Kp.same (l := l) (lu := lu) s3).trans (cv3.kpush (o := .lst ((vs0 ++ rs1) ++ [V.ref qr])))
      have le3 := Kp.le (K := K) kp3 cv1.hl cv1.hu
      refine k _ (rs1 ++ [.ref qr]) qn1 (kp1.trans kp3) ?_ ?_ ?_ ?_
      · rw [upd_same]
        simp only [List.append_assoc]
      · exact Reps.append (rr1.mono le3) (Reps.one (Rep.mk (cv3.kpush.le cv3.hl cv3.hu _ _ (sqt_of (K := K) upd_same)) (Reps.cons rfl rfl)))
      · rw [cv3.push.hu]
      · exact rq1.mono le3 kp3
    | ask op e1 =>
      obtain ⟨ar, us, rfl, har⟩ : ∃ a us, ve = .ref a ∧ SqT K H a (V.str "ask" :: us) := rep_hd re
      walk_at "w"
      refine ⟨x, dx, lb, lu, l, nl, _, _, _, ns, _, rfl, cv, re0, ⟨trivial, by omega⟩, hc, by omega, z2, z3, fun H1 rs1 qn1 kp1 hl1 rr1 hu1 rq1 => ?_⟩
      have cv1 := cv.next kp1 hl1 hu1
      have len1 := rr1.length
      have t1 := E.val_len (E.ask op e1) ns vs0.length qvs.length
      have zr : (vs0 ++ rs1).length ≤ 100000 := by rw [List.length_append]; omega
      walk_at "w"
      rename_i qr hqr
      have s3 := Same.new (o := HO.tup [V.str "return"]) (Same.refl _) hqr
      have cv3 := cv1.same s3
      have kp3 := (Kp.same (l := l) (lu := lu) s3).trans (cv3.kpush (o := .lst ((vs0 ++ rs1) ++ [V.ref qr])))
      have le3 := Kp.le (K := K) kp3 cv1.hl cv1.hu
      refine k _ (rs1 ++ [.ref qr]) qn1 (kp1.trans kp3) ?_ ?_ ?_ ?_
      · rw [upd_same]
        simp only [List.append_assoc]
      · exact Reps.append (rr1.mono le3) (Reps.one (Rep.mk (cv3.kpush.le cv3.hl cv3.hu _ _ (sqt_of (K := K) upd_same)) (Reps.cons rfl rfl)))
      · rw [cv3.push.hu]
      · exact rq1.mono le3 kp3
theorem ok_last_s (T : Txt w K mg) (k kv n m : Nat) (hkv : kv ≤ k) (hnm : n + 1 ≤ m) (m_Compiler_value : C8.Met P w K mg base kv (He.ga K "Compiler") "value" (sp_val K m) []) (m_Compiler_last : C8.Met P w K mg base k (He.ga K "Compiler") "last" (sp_last K n) []) : C8.Met P w K mg base (k + 1) (He.ga K "Compiler") "last" (sp_last K (n + 1)) [] :=
  metD (k := k) T.cCompiler T.mCompiler_last T.f_Compiler_last sc_Compiler_last (fun _ _ _ _ _ _ us hl => match us, hl with | [_, _, _, _], _ => rfl) (fun vs H Q Ex h => by obtain ⟨x, dx, lb, lu, l, nl, qvs, vs0, e, ns, ve, rfl, _⟩ := h; rfl) (b_ok_last_s T k kv n m hkv hnm m_Compiler_value m_Compiler_last)

theorem ok_last0 (T : Txt w K mg) (k : Nat) : C8.Met P w K mg base (k + 1) (He.ga K "Compiler") "last" (sp_last K 0) [] := by
  refine metD (k := k) T.cCompiler T.mCompiler_last T.f_Compiler_last sc_Compiler_last (fun _ _ _ _ _ _ us hl => match us, hl with | [_, _, _, _], _ => rfl) (fun vs H Q Ex h => ?_) (fun cdv A outer s H vs Q Ex hr h => ?_)
  · obtain ⟨x, dx, lb, lu, l, nl, qvs, vs0, e, ns, ve, rfl, _⟩ := h
    rfl
  · obtain ⟨x, dx, lb, lu, l, nl, qvs, vs0, e, ns, ve, rfl, cv, re, hd, hc, z1, z2, z3, k⟩ := h
    have := E.dep_pos e
    exact absurd hd.2 (by omega)
theorem ok_last (T : Txt w K mg) (kv m : Nat) (m_Compiler_value : C8.Met P w K mg base kv (He.ga K "Compiler") "value" (sp_val K m) []) : ∀ n, n ≤ m → C8.Met P w K mg base (kv + n + 1) (He.ga K "Compiler") "last" (sp_last K n) []
  | 0, _ => ok_last0 T kv
  | n + 1, h => ok_last_s T (kv + n + 1) kv n m (by omega) h m_Compiler_value (ok_last T kv m m_Compiler_value n (by omega))
end
set_option maxRecDepth 100000
set_option maxHeartbeats 400000
section
variable {P : Program} {w : World} {K : PySem.W.Frag} {mg : Str → Option Value} {base : Heap}

abbrev nm_answers : List Str := ["body", "kept", "head", "is_free", "part"]
theorem sc_answers : FnScope nm_answers ["body", "kept"] (defScope s_answers) := ⟨rfl, rfl, rfl, by decide +kernel, rfl, by decide +kernel, by decide +kernel⟩
theorem st_answers {a0 a1 : V} : L2.start nm_answers [a0, a1] = [some a0, some a1, none, none, none] := rfl

def sp_answers (K : PySem.W.Frag) : Sp := fun vs H Q _ => ∃ (x : Nm) (e : E) (ve vk : V), vs = [ve, vk] ∧ Rep K H (E.fn x e).d ve ∧ ∀ H', Same H H' → Q (.bl false) H'
theorem ok_answers (T : Txt w K mg) : C8.Cal P w K mg base 1 "answers" (sp_answers K) [] := by
  refine calD (k := 0) T.f_answers T.g_answers sc_answers (fun _ _ _ _ _ _ us hl => match us, hl with | [_, _], _ => rfl) (fun vs H Q Ex h => ?_) (fun cdv A outer s H vs Q Ex hr h => ⟨_, (pss_cons (ps_set (i := 2) sc_answers.nd rfl (by first | exact Or.inl rfl | exact Or.inr rfl) (pe_ix ix_2 (pv 0) pe_int (fun _ _ => rfl))) (pss_cons (ps_if (pt_cmpR op_eq (pv 2) pe_str (by rfl)) pss_never pss_nil) (pss_cons (ps_if (pt_cmpR op_notIn_seq (pv 2) (pe_tup (pa_cons pe_str (pa_cons pe_str (pa_cons pe_str pa_nil)))) (by rfl)) (pss_one (ps_ret pe_bl)) pss_nil) pss_never))), ?_⟩)
  · obtain ⟨x, e, ve, vk, rfl, _⟩ := h
    rfl
  · obtain ⟨x, e, ve, vk, rfl, re, k⟩ := h
    rw [st_answers]
    obtain ⟨ar, _, rfl, har, _, _, rfl, rfl, _, _, rfl, rfl, _, _, rfl, r1, rfl⟩ := re
    walk_at "w"
    exact k _ (by walk_at "sm")

abbrev nm_answers_at_once : List Str := ["clause"]
theorem sc_answers_at_once : FnScope nm_answers_at_once ["clause"] (defScope s_answers_at_once) := ⟨rfl, rfl, rfl, by decide +kernel, rfl, by decide +kernel, by decide +kernel⟩
theorem st_answers_at_once {a0 : V} : L2.start nm_answers_at_once [a0] = [some a0] := rfl

def sp_once (K : PySem.W.Frag) : Sp := fun vs H Q _ => ∃ (a b c : D) (x : Nm) (e : E) (ve : V), vs = [ve] ∧ Rep K H (.tup [a, b, c, (E.fn x e).d]) ve ∧ ∀ H', Same H H' → Q (.bl false) H'
theorem ok_once (T : Txt w K mg) (c_answers : C8.Cal P w K mg base 1 "answers" (sp_answers K) []) : C8.Cal P w K mg base 2 "answers_at_once" (sp_once K) [] := by
  refine calD (k := 1) T.f_answers_at_once T.g_answers_at_once sc_answers_at_once (fun _ _ _ _ _ _ us hl => match us, hl with | [_], _ => rfl) (fun vs H Q Ex h => ?_) (fun cdv A outer s H vs Q Ex hr h => ⟨_, (pss_one (ps_ret (C8.pe_c c_answers hr (by omega) (by rfl) (pa_cons (pe_ix ix_2 (pv 0) pe_int (fun _ _ => rfl)) (pa_cons (pe_ix ix_2 (pv 0) pe_int (fun _ _ => rfl)) pa_nil))))), ?_⟩)
  · obtain ⟨a, b, c, x, e, ve, rfl, _⟩ := h
    rfl
  · obtain ⟨a, b, c, x, e, ve, rfl, re, k⟩ := h
    rw [st_answers_at_once]
    obtain ⟨ar, _, rfl, har, _, _, rfl, ra, _, _, rfl, rb, _, _, rfl, rc, _, _, rfl, r1, rfl⟩ := re
    walk_at "w"
    refine ⟨x, e, _, _, rfl, r1, fun H1 s1 => ?_⟩
    walk_at "w"
    exact k _ s1

abbrev nm_Code___init__ : List Str := ["self", "blocks"]
theorem sc_Code___init__ : FnScope nm_Code___init__ ["self", "blocks"] (defScope s_Code___init__) := ⟨rfl, rfl, rfl, by decide +kernel, rfl, by decide +kernel, by decide +kernel⟩
theorem st_Code___init__ {a0 a1 : V} : L2.start nm_Code___init__ [a0, a1] = [some a0, some a1] := rfl

def sp_Code_init (K : PySem.W.Frag) : Sp := fun vs H Q _ => ∃ (x dx : Addr) (v : V), vs = [.ref x, v] ∧ H x = some (.ins (He.ga K "Code") dx []) ∧ Q .non (upd H x (.ins (He.ga K "Code") dx [("blocks", v)]))
theorem ok_Code_init (T : Txt w K mg) : C8.Mak P w K mg base 1 "Code" (He.ga K "Code") (sp_Code_init K) [] := by
  refine makD (k := 0) T.mkCode T.g_Code T.f_Code___init__ sc_Code___init__ (fun _ _ _ _ _ _ us hl => match us, hl with | [_, _], _ => rfl) (fun vs H Q Ex h => ?_) (fun cdv A outer s H vs Q Ex hr h => ⟨_, (pss_one (ps_s T.cCode T.nCode_blocks (pv 0) (pv 1))), ?_⟩)
  · obtain ⟨x, dx, v, rfl, _⟩ := h
    rfl
  · obtain ⟨x, dx, v, rfl, hx, k⟩ := h
    rw [st_Code___init__]
    walk_at "w"
    exact k

end
set_option maxRecDepth 100000
set_option maxHeartbeats 400000
section
variable {P : Program} {w : World} {K : PySem.W.Frag} {mg : Str → Option Value} {base : Heap}

abbrev nm_Compiler___init__ : List Str := ["self"]
theorem sc_Compiler___init__ : FnScope nm_Compiler___init__ ["self"] (defScope s_Compiler___init__) := ⟨rfl, rfl, rfl, by decide +kernel, rfl, by decide +kernel, by decide +kernel⟩
theorem st_Compiler___init__ {a0 : V} : L2.start nm_Compiler___init__ [a0] = [some a0] := rfl

def sp_Cp_init (K : PySem.W.Frag) : Sp := fun vs H Q _ => ∃ (x dx : Addr), vs = [.ref x] ∧ H x = some (.ins (cCp K) dx []) ∧ ∀ H' lb lu, H lb = none → H lu = none → lb ≠ lu → (∀ b o, b ≠ x → H b = some o → H' b = some o) → H' x = some (.ins (cCp K) dx (cpF lb lu)) → H' lb = some (.lst []) → H' lu = some (.lst []) → Q .non H'
theorem ok_Cp_init (T : Txt w K mg) : C8.Mak P w K mg base 1 "Compiler" (He.ga K "Compiler") (sp_Cp_init K) [] := by
  refine makD (k := 0) T.mkCompiler T.g_Compiler T.f_Compiler___init__ sc_Compiler___init__ (fun _ _ _ _ _ _ us hl => match us, hl with | [_], _ => rfl) (fun vs H Q Ex h => ?_) (fun cdv A outer s H vs Q Ex hr h => ⟨_, (pss_cons (ps_s T.cCompiler T.nCompiler_blocks (pv 0) (pe_lst pa_nil)) (pss_one (ps_s T.cCompiler T.nCompiler_queue (pv 0) (pe_lst pa_nil)))), ?_⟩)
  · obtain ⟨x, dx, rfl, _⟩ := h
    rfl
  · obtain ⟨x, dx, rfl, hx, k⟩ := h
    rw [st_Compiler___init__]
    walk_at "w"
    rename_i lb hlb lu hlu
    have hlu0 : H lu = none := free_new (free_new hlu)
    have nbu : lb ≠ lu := ne_of_none (get_ne upd_same (ne_of_none hx hlb).symm : _ = some (HO.lst [])) hlu
    refine k _ lb lu hlb hlu0 nbu (fun b o nb e => ?_) (by walk_at "lk") (by walk_at "lk") (by walk_at "lk")
    rw [upd_ne nb, upd_ne (ne_of_none e hlu0), upd_ne nb, upd_ne (ne_of_none e hlb)]
    exact e

end
set_option maxRecDepth 100000
set_option maxHeartbeats 400000
section
variable {P : Program} {w : World} {K : PySem.W.Frag} {mg : Str → Option Value} {base : Heap}

abbrev nm_Compiler_handler : List Str := ["self", "rows", "expression", "names", "inner", "name", "last", "after", "clauses", "clause", "body", "in_place"]
theorem sc_Compiler_handler : FnScope nm_Compiler_handler ["self", "rows", "expression", "names"] (defScope s_Compiler_handler) := ⟨rfl, rfl, rfl, by decide +kernel, rfl, by decide +kernel, by decide +kernel⟩
theorem st_Compiler_handler {a0 a1 a2 a3 : V} : L2.start nm_Compiler_handler [a0, a1, a2, a3] = [some a0, some a1, some a2, some a3, none, none, none, none, none, none, none, none] := rfl

def sp_handler (K : PySem.W.Frag) : Sp := fun vs H Q _ => ∃ (x dx lb lu l nl : Addr) (qvs : List V) (d : D) (h : Hd) (ve : V) (xg xp : Nm) (eg ep : E), vs = [.ref x, .ref l, ve, .ref nl] ∧ CvAt K H x dx lb lu l nl qvs [] [] ∧ Rep K H (.tup [.str "handle", d, Hd.ret h, Hd.cls h]) ve ∧ h.g = .fn xg eg ∧ h.p = .fn xp ep ∧ qvs.length ≤ 100 ∧
  ∀ H' qr cd t1 t2 w1 w2 w3 w4, Kp H H' l lu → H' l = some (.lst [.ref qr]) → SqT K H' qr [.str "handle", .int qvs.length, .int (qvs.length + 1 : Nat), .ref cd] → H' cd = some (.dK [(.inr "get", .ref t1), (.inr "put", .ref t2)]) → SqT K H' t1 [.int (qvs.length + 2 : Nat), .bl false] → SqT K H' t2 [.int (qvs.length + 3 : Nat), .bl false] →
    H' lu = some (.lst (qvs ++ [w1, w2, w3, w4])) → (∃ t ve, w1 = .ref t ∧ SqT K H' t [ve, .ref nl] ∧ Rep K H' d ve) → QReps K H' l lu [(h.e, [h.x]), (h.g, [h.u, .k]), (h.p, [h.n, .k])] [w2, w3, w4] → Q .non H'
/-- the handler's loop: the heap from turn to turn -/
structure HSt (K : PySem.W.Frag) (H4 : Hp) (x dx lb lu l nl cd : Addr) (qvs : List V) (kvs : List (Key × V)) (H' : Hp) : Prop where
  le : Le K H4 H'
  kp : ∀ b o, b ≠ lu → b ≠ cd → H4 b = some o → H' b = some o
  cv : CvAt K H' x dx lb lu l nl qvs [] []
  hd : H' cd = some (.dK kvs)
theorem QRep.mono' {K : PySem.W.Frag} {H H1 : Hp} {l u : Addr} {q : E × List Nm} {v : V} (le : Le K H H1) (kp : ∀ b ys, b ≠ l → b ≠ u → H b = some (.lst ys) → H1 b = some (.lst ys)) : QRep K H l u q v → QRep K H1 l u q v := fun ⟨t, ve, nl, a, b, c, d, e, f⟩ => ⟨t, ve, nl, a, le _ _ b, c.mono le, kp _ _ e f d, e, f⟩
theorem ok_handler (T : Txt w K mg) (m_Compiler_block : C8.Met P w K mg base 1 (He.ga K "Compiler") "block" (sp_block K) []) (c_answers_at_once : C8.Cal P w K mg base 2 "answers_at_once" (sp_once K) []) : C8.Met P w K mg base 3 (He.ga K "Compiler") "handler" (sp_handler K) [] := by
  refine metD (k := 2) T.cCompiler T.mCompiler_handler T.f_Compiler_handler sc_Compiler_handler (fun _ _ _ _ _ _ us hl => match us, hl with | [_, _, _, _], _ => rfl) (fun vs H Q Ex h => ?_) (fun cdv A outer s H vs Q Ex hr h => ⟨_, (pss_cons (ps_set (i := 4) sc_Compiler_handler.nd rfl (by first | exact Or.inl rfl | exact Or.inr rfl) (C8.pe_mt m_Compiler_block hr (by omega) (pv 0) (pa_cons (pe_ix ix_2 (pv 2) pe_int (fun _ _ => rfl)) (pa_cons (pv 3) pa_nil)))) (pss_cons (ps_asg (pe_ix ix_2 (pv 2) pe_int (fun _ _ => rfl)) (pg_tup rfl (pgs_cons (pg_name (i := 5) sc_Compiler_handler.nd rfl (by first | exact Or.inl rfl | exact Or.inr rfl)) (pgs_cons (pg_name (i := 6) sc_Compiler_handler.nd rfl (by first | exact Or.inl rfl | exact Or.inr rfl)) pgs_nil)))) (pss_cons (ps_set (i := 7) sc_Compiler_handler.nd rfl (by first | exact Or.inl rfl | exact Or.inr rfl) (C8.pe_mt m_Compiler_block hr (by omega) (pv 0) (pa_cons (pv 6) (pa_cons (pe_op op_plus (pv 3) (pe_lst (pa_cons (pv 5) pa_nil))) pa_nil)))) (pss_cons (ps_set (i := 8) sc_Compiler_handler.nd rfl (by first | exact Or.inl rfl | exact Or.inr rfl) pe_dnewK) (pss_cons (ps_for PassesOwn.never rfl (pi_tup (pe_ix ix_2 (pv 2) pe_int (fun _ _ => rfl))) (pg_name (i := 9) sc_Compiler_handler.nd rfl (by first | exact Or.inl rfl | exact Or.inr rfl)) (pss_cons (ps_set (i := 10) sc_Compiler_handler.nd rfl (by first | exact Or.inl rfl | exact Or.inr rfl) (pe_ix ix_2 (pv 9) pe_int (fun _ _ => rfl))) (pss_cons (ps_set (i := 11) sc_Compiler_handler.nd rfl (by first | exact Or.inl rfl | exact Or.inr rfl) (C8.pe_c c_answers_at_once hr (by omega) (by rfl) (pa_cons (pv 9) pa_nil))) (pss_cons (ps_if (pt_tru (pv 11)) pss_never pss_nil) (pss_one (ps_dput (hu_of hr) (pv 8) (pe_ix ix_2 (pv 9) pe_int (fun _ _ => rfl)) (pe_tup (pa_cons (C8.pe_mt m_Compiler_block hr (by omega) (pv 0) (pa_cons (pv 10) (pa_cons (pe_op op_plus (pv 3) (pe_lst (pa_cons (pe_ix ix_2 (pv 9) pe_int (fun _ _ => rfl)) (pa_cons (pe_ix ix_2 (pv 9) pe_int (fun _ _ => rfl)) pa_nil)))) pa_nil))) (pa_cons (pv 11) pa_nil))) rfl)))))) (pss_one (ps_expr (pe_bm PySem.F.plainAttrs_list PySem.F.slot_list_append PySem.F.type_list_append mt_append (pv 1) (pa_cons (pe_tup (pa_cons pe_str (pa_cons (pv 4) (pa_cons (pv 7) (pa_cons (pv 8) pa_nil))))) pa_nil))))))))), ?_⟩)
  · obtain ⟨x, dx, lb, lu, l, nl, qvs, d, h, ve, xg, xp, eg, ep, rfl, _⟩ := h
    rfl
  · obtain ⟨x, dx, lb, lu, l, nl, qvs, d, h, ve, xg, xp, eg, ep, rfl, cv, re, eg1, ep1, hz, k⟩ := h
    rw [st_Compiler_handler]
    have ho := cv.ho
    have hl := cv.hl
    have hn := cv.hn
    have hu := cv.hu
    obtain ⟨ar, _, rfl, har, _, _, rfl, rfl, vd, _, rfl, rd, _, _, rfl, ⟨br, _, rfl, hbr, _, _, rfl, rfl, ve2, _, rfl, re2, rfl⟩, _, _, rfl, ⟨cr, _, rfl, hcr, c1, _, rfl, rc1, c2, _, rfl, rc2, rfl⟩, rfl⟩ := re
    walk_at "w"
    refine ⟨x, dx, lb, lu, nl, _, qvs, rfl, ho, hu, by omega, fun H1 w1 f1 kp1 et1 eu1 => ?_⟩
    have kq1 : Kp H H1 l lu := fun b o _ n e => kp1 b o n e
    have cv1 : CvAt K H1 x dx lb lu l nl (qvs ++ [.ref w1]) ([] ++ []) [] := cv.next kq1 (kp1 _ _ cv.n0 hl) eu1
    have le1 : Le K H H1 := kq1.le hl hu
    have ho1 := cv1.ho
    have hn1 := cv1.hn
    have rd1 := rd.mono le1
    walk_at "w"
    rename_i q1 hq1 q2 hq2
    have nq2 : H1 q2 = none := free_new hq2
    have nl2 : q2 ≠ l := (ne_of_none cv1.hl nq2).symm
    have nu2 : q2 ≠ lu := (ne_of_none cv1.hu nq2).symm
    refine w_genS (F := fun HH => Same H1 HH ∧ HH q2 = some (.lst (nmV [h.x]))) ⟨by walk_at "sm", upd_same⟩ ?_
    rintro H2 ⟨s12, hq2'⟩
    clear hq1 hq2
    have cv2 := cv1.same s12
    refine ⟨x, dx, lb, lu, q2, _, _, rfl, cv2.ho, cv2.hu, by rw [List.length_append, List.length_singleton]; omega, fun H3 w2 f2 kp3 et3 eu3 => ?_⟩
    have kq3 : Kp H2 H3 l lu := fun b o _ n e => kp3 b o n e
    have cv3 : CvAt K H3 x dx lb lu l nl ((qvs ++ [.ref w1]) ++ [.ref w2]) (([] ++ []) ++ []) [] := cv2.next kq3 (kp3 _ _ cv2.n0 cv2.hl) eu3
    have le13 : Le K H1 H3 := (Le.same s12).trans (kq3.le cv2.hl cv2.hu)
    have le3 := le1.trans le13
    have hq23 := kp3 _ _ nu2 hq2'
    have ho3 := cv3.ho
    have hn3 := cv3.hn
    walk_at "w"
    intro cd hcd
    have ncl : cd ≠ l := (ne_of_none cv3.hl hcd).symm
    have ncu : cd ≠ lu := (ne_of_none cv3.hu hcd).symm
    have cv4 := cv3.same (Same.new (o := .dK []) (Same.refl _) hcd)
    have le34 : Le K H3 (upd H3 cd (.dK [])) := Le.new Le.refl hcd
    have hcd4 : upd H3 cd (.dK []) cd = some (.dK []) := upd_same
    have hq24 := get_new (o := HO.dK []) hq23 hcd
    have kp34 : Kp H3 (upd H3 cd (.dK [])) l lu := Kp.same (Same.new (Same.refl _) hcd)
    generalize hH4 : upd H3 cd (HO.dK []) = H4 at cv4 le34 hcd4 hq24 kp34 ⊢
    have le4 := le3.trans le34
    walk_at "w"
    have st0 : HSt K H4 x dx lb lu l nl cd (qvs ++ [.ref w1] ++ [.ref w2]) [] H4 := ⟨Le.refl, fun _ _ _ _ e => e, cv4, hcd4⟩
    clear hH4 cv4 hcd4
    refine ⟨cr, rfl, ⟨_, le4 _ _ hcr⟩, for_tup (xs := [c1, c2]) (fun i => match i with
      | 0 => fun σ H' => (∃ v9 v10 v11, σ = [some (.ref x), some (.ref l), some (.ref ar), some (.ref nl), some (.int qvs.length), some (.str h.x.str), some ve2, some (.int ((qvs ++ [V.ref w1]).length : Nat)), some (.ref cd), v9, v10, v11]) ∧ HSt K H4 x dx lb lu l nl cd (qvs ++ [.ref w1] ++ [.ref w2]) [] H'
      | 1 => fun σ H' => (∃ v9 v10 v11, σ = [some (.ref x), some (.ref l), some (.ref ar), some (.ref nl), some (.int qvs.length), some (.str h.x.str), some ve2, some (.int ((qvs ++ [V.ref w1]).length : Nat)), some (.ref cd), v9, v10, v11]) ∧ ∃ w3 t1, HSt K H4 x dx lb lu l nl cd (qvs ++ [.ref w1] ++ [.ref w2] ++ [.ref w3]) [(.inr "get", .ref t1)] H' ∧ SqT K H' t1 [.int (qvs.length + 2 : Nat), .bl false] ∧ QRep K H' l lu (h.g, [h.u, .k]) (.ref w3) ∧ True
      | _ => fun σ H' => (∃ v9 v10 v11, σ = [some (.ref x), some (.ref l), some (.ref ar), some (.ref nl), some (.int qvs.length), some (.str h.x.str), some ve2, some (.int ((qvs ++ [V.ref w1]).length : Nat)), some (.ref cd), v9, v10, v11]) ∧ ∃ w3 w4 t1 t2, HSt K H4 x dx lb lu l nl cd (qvs ++ [.ref w1] ++ [.ref w2] ++ [.ref w3] ++ [.ref w4]) [(.inr "get", .ref t1), (.inr "put", .ref t2)] H' ∧ SqT K H' t1 [.int (qvs.length + 2 : Nat), .bl false] ∧ SqT K H' t2 [.int (qvs.length + 3 : Nat), .bl false] ∧ QRep K H' l lu (h.g, [h.u, .k]) (.ref w3) ∧ QRep K H' l lu (h.p, [h.n, .k]) (.ref w4)) ⟨⟨none, none, none, rfl⟩, st0⟩ ?_ ?_ ?_⟩
    · intro i σ H' hi p
      match i, p with
      | 0, p => exact p.2.le _ _ (le4 _ _ hcr)
      | 1, p =>
        obtain ⟨_, _, _, st, _⟩ := p
        exact st.le _ _ (le4 _ _ hcr)
      | _ + 2, p =>
        obtain ⟨_, _, _, _, _, st, _⟩ := p
        exact st.le _ _ (le4 _ _ hcr)
    · intro i y σ H' hy p
      match i, hy, p with
      | 0, hy, p =>
        cases hy
        obtain ⟨⟨v9, v10, v11, rfl⟩, st⟩ := p
        obtain ⟨ac, _, rfl, hac, _, _, rfl, rfl, _, _, rfl, rfl, _, _, rfl, rfl, vb, _, rfl, rb, rfl⟩ := id rc1
        have rc' := rc1.mono (le4.trans st.le)
        rw [eg1] at rc'
        have cvA := st.cv
        have leA := le4.trans st.le
        have ho5 := cvA.ho
        have hn5 := cvA.hn
        walk_at "w"
        refine ⟨_, _, _, xg, eg, _, rfl, rc', fun H5 s5 => ?_⟩
        have cv5 := cvA.same s5
        have le5 := leA.after s5
        have ho6 := cv5.ho
        have hn6 := cv5.hn
        walk_at "w"
        rename_i p1 hp1 q3 hq3
        have nq3 : H5 q3 = none := free_new hq3
        refine w_genS (F := fun HH => Same H5 HH ∧ HH q3 = some (.lst (nmV [h.u, .k]))) ⟨by walk_at "sm", upd_same⟩ ?_
        rintro H6 ⟨s56, hq6⟩
        clear hp1 hq3
        have cv6 := cv5.same s56
        have s6 := s5.trans s56
        refine ⟨x, dx, lb, lu, q3, vb, _, rfl, cv6.ho, cv6.hu, by simp only [List.length_append, List.length_singleton]; omega, fun H7 w3 f7 kp7 et7 eu7 => ?_⟩
        have n3l : q3 ≠ l := (ne_of_none cv5.hl nq3).symm
        have n3u : q3 ≠ lu := (ne_of_none cv5.hu nq3).symm
        have hcd7 := kp7 _ _ ncu (s6 _ _ st.hd)
        have kA7 : ∀ b o, b ≠ lu → H' b = some o → H7 b = some o := fun b o n e => kp7 _ _ n (s6 _ _ e)
        have leA7 : Le K H' H7 := Le.of fun b u e z => kA7 b u (ne_of e cvA.hu fun q => by rcases z with ⟨_, rfl⟩ | ⟨_, _, rfl⟩ <;> cases q) e
        have cv7 : CvAt K H7 x dx lb lu l nl _ [] [] := ⟨kA7 _ _ (ne_ins_lst cvA.ho cvA.hu) cvA.ho, eu7, kA7 _ _ cvA.n0 cvA.hl, kA7 _ _ cvA.n2 cvA.hn, cvA.n0, cvA.n1, cvA.n2⟩
        have hq7 := kp7 _ _ n3u hq6
        have hac7 := leA7 _ _ (leA _ _ hac)
        have hvb7 := (rb.mono leA).mono leA7
        walk_at "w"
        have ec : (qvs ++ [V.ref w1] ++ [V.ref w2]).length = qvs.length + 2 := by simp only [List.length_append, List.length_singleton]
        rw [ec]
        rename_i t1 hf1
        refine ⟨cd, _, rfl, DPut.k (k := .inr "get") (get_new hcd7 hf1) (Nat.lt_of_le_of_lt (ble_le (b := 10) rfl) (by decide)), ?_⟩
        have s78 := Same.new (o := HO.tup [V.int (qvs.length + 2 : Nat), V.bl false]) (Same.refl H7) hf1
        have cd8 := s78 _ _ hcd7
        have le89 : Le K (upd H7 t1 (HO.tup [V.int (qvs.length + 2 : Nat), V.bl false])) (upd (upd H7 t1 (HO.tup [V.int (qvs.length + 2 : Nat), V.bl false])) cd (HO.dK (putK [] (.inr "get") (.ref t1)))) := Le.dK Le.refl cd8
        have le79 := (Le.same (K := K) s78).trans le89
        have leZ := leA7.trans le79
        have ht := le89 _ _ (sqt_of (K := K) upd_same)
        have k79 : ∀ b o, b ≠ cd → H7 b = some o → upd (upd H7 t1 (HO.tup [V.int (qvs.length + 2 : Nat), V.bl false])) cd (HO.dK (putK [] (.inr "get") (.ref t1))) b = some o := fun b o n e => get_ne (s78 _ _ e) n
        have kA9 : ∀ b o, b ≠ lu → b ≠ cd → H' b = some o → upd (upd H7 t1 (HO.tup [V.int (qvs.length + 2 : Nat), V.bl false])) cd (HO.dK (putK [] (.inr "get") (.ref t1))) b = some o := fun b o n n2 e => k79 _ _ n2 (kA7 _ _ n e)
        have hlk : ∀ {b : Addr} {ys : List V}, H7 b = some (.lst ys) → b ≠ cd := fun e => ne_lst_dK e hcd7
        have hst : HSt K H4 x dx lb lu l nl cd _ (putK [] (.inr "get") (.ref t1)) (upd (upd H7 t1 (HO.tup [V.int (qvs.length + 2 : Nat), V.bl false])) cd (HO.dK (putK [] (.inr "get") (.ref t1)))) :=
          ⟨st.le.trans leZ, fun b o n n2 e => kA9 _ _ n n2 (st.kp _ _ n n2 e), ⟨k79 _ _ (ne_ins_dK cv7.ho hcd7) cv7.ho, k79 _ _ (hlk cv7.hu) cv7.hu, k79 _ _ (hlk cv7.hl) cv7.hl, k79 _ _ (hlk cv7.hn) cv7.hn, cv7.n0, cv7.n1, cv7.n2⟩, upd_same⟩
        have hq : QRep K _ l lu (h.g, [h.u, .k]) (.ref w3) := ⟨w3, vb, q3, rfl, le79 _ _ (sqt_of et7), hvb7.mono le79, k79 _ _ (hlk hq7) hq7, n3l, n3u⟩
        refine ⟨⟨_, _, _, rfl⟩, w3, t1, hst, ht, hq, trivial⟩
      | 1, hy, p =>
        cases hy
        obtain ⟨⟨v9, v10, v11, rfl⟩, w3', t1', st, ht1, hq1, hn1⟩ := p
        obtain ⟨ac, _, rfl, hac, _, _, rfl, rfl, _, _, rfl, rfl, _, _, rfl, rfl, vb, _, rfl, rb, rfl⟩ := id rc2
        have rc' := rc2.mono (le4.trans st.le)
        rw [ep1] at rc'
        have cvA := st.cv
        have leA := le4.trans st.le
        have ho5 := cvA.ho
        have hn5 := cvA.hn
        walk_at "w"
        refine ⟨_, _, _, xp, ep, _, rfl, rc', fun H5 s5 => ?_⟩
        have cv5 := cvA.same s5
        have le5 := leA.after s5
        have ho6 := cv5.ho
        have hn6 := cv5.hn
        walk_at "w"
        rename_i p1 hp1 q3 hq3
        have nq3 : H5 q3 = none := free_new hq3
        refine w_genS (F := fun HH => Same H5 HH ∧ HH q3 = some (.lst (nmV [h.n, .k]))) ⟨by walk_at "sm", upd_same⟩ ?_
        rintro H6 ⟨s56, hq6⟩
        clear hp1 hq3
        have cv6 := cv5.same s56
        have s6 := s5.trans s56
        refine ⟨x, dx, lb, lu, q3, vb, _, rfl, cv6.ho, cv6.hu, by simp only [List.length_append, List.length_singleton]; omega, fun H7 w3 f7 kp7 et7 eu7 => ?_⟩
        have n3l : q3 ≠ l := (ne_of_none cv5.hl nq3).symm
        have n3u : q3 ≠ lu := (ne_of_none cv5.hu nq3).symm
        have hcd7 := kp7 _ _ ncu (s6 _ _ st.hd)
        have kA7 : ∀ b o, b ≠ lu → H' b = some o → H7 b = some o := fun b o n e => kp7 _ _ n (s6 _ _ e)
        have leA7 : Le K H' H7 := Le.of fun b u e z => kA7 b u (ne_of e cvA.hu fun q => by rcases z with ⟨_, rfl⟩ | ⟨_, _, rfl⟩ <;> cases q) e
        have cv7 : CvAt K H7 x dx lb lu l nl _ [] [] := ⟨kA7 _ _ (ne_ins_lst cvA.ho cvA.hu) cvA.ho, eu7, kA7 _ _ cvA.n0 cvA.hl, kA7 _ _ cvA.n2 cvA.hn, cvA.n0, cvA.n1, cvA.n2⟩
        have hq7 := kp7 _ _ n3u hq6
        have hac7 := leA7 _ _ (leA _ _ hac)
        have hvb7 := (rb.mono leA).mono leA7
        walk_at "w"
        have ec : (qvs ++ [V.ref w1] ++ [V.ref w2] ++ [V.ref w3']).length = qvs.length + 3 := by simp only [List.length_append, List.length_singleton]
        rw [ec]
        rename_i t1 hf1
        refine ⟨cd, _, rfl, DPut.k (k := .inr "put") (get_new hcd7 hf1) (Nat.lt_of_le_of_lt (ble_le (b := 10) rfl) (by decide)), ?_⟩
        have s78 := Same.new (o := HO.tup [V.int (qvs.length + 3 : Nat), V.bl false]) (Same.refl H7) hf1
        have cd8 := s78 _ _ hcd7
        have le89 : Le K (upd H7 t1 (HO.tup [V.int (qvs.length + 3 : Nat), V.bl false])) (upd (upd H7 t1 (HO.tup [V.int (qvs.length + 3 : Nat), V.bl false])) cd (HO.dK (putK [(Sum.inr "get", V.ref t1')] (.inr "put") (.ref t1)))) := Le.dK Le.refl cd8
        have le79 := (Le.same (K := K) s78).trans le89
        have leZ := leA7.trans le79
        have ht := le89 _ _ (sqt_of (K := K) upd_same)
        have k79 : ∀ b o, b ≠ cd → H7 b = some o → upd (upd H7 t1 (HO.tup [V.int (qvs.length + 3 : Nat), V.bl false])) cd (HO.dK (putK [(Sum.inr "get", V.ref t1')] (.inr "put") (.ref t1))) b = some o := fun b o n e => get_ne (s78 _ _ e) n
        have kA9 : ∀ b o, b ≠ lu → b ≠ cd → H' b = some o → upd (upd H7 t1 (HO.tup [V.int (qvs.length + 3 : Nat), V.bl false])) cd (HO.dK (putK [(Sum.inr "get", V.ref t1')] (.inr "put") (.ref t1))) b = some o := fun b o n n2 e => k79 _ _ n2 (kA7 _ _ n e)
        have hlk : ∀ {b : Addr} {ys : List V}, H7 b = some (.lst ys) → b ≠ cd := fun e => ne_lst_dK e hcd7
        have hst : HSt K H4 x dx lb lu l nl cd _ (putK [(Sum.inr "get", V.ref t1')] (.inr "put") (.ref t1)) (upd (upd H7 t1 (HO.tup [V.int (qvs.length + 3 : Nat), V.bl false])) cd (HO.dK (putK [(Sum.inr "get", V.ref t1')] (.inr "put") (.ref t1)))) :=
          ⟨st.le.trans leZ, fun b o n n2 e => kA9 _ _ n n2 (st.kp _ _ n n2 e), ⟨k79 _ _ (ne_ins_dK cv7.ho hcd7) cv7.ho, k79 _ _ (hlk cv7.hu) cv7.hu, k79 _ _ (hlk cv7.hl) cv7.hl, k79 _ _ (hlk cv7.hn) cv7.hn, cv7.n0, cv7.n1, cv7.n2⟩, upd_same⟩
        have hq : QRep K _ l lu (h.p, [h.n, .k]) (.ref w3) := ⟨w3, vb, q3, rfl, le79 _ _ (sqt_of et7), hvb7.mono le79, k79 _ _ (hlk hq7) hq7, n3l, n3u⟩
    
        refine ⟨⟨_, _, _, rfl⟩, w3', w3, t1', t1, hst, leZ _ _ ht1, ht, hq1.mono' leZ (fun b ys _ n2 e => kA9 _ _ n2 (ne_lst_dK e st.hd) e), hq⟩
      | _ + 2, hy, p => exact absurd hy (by simp)
    · rintro σ H' ⟨⟨v9, v10, v11, rfl⟩, w3, w4, t1, t2, st, ht1, ht2, hq3, hq4⟩
      have cvF := st.cv
      have hoF := cvF.ho
      have hlF := cvF.hl
      walk_at "w"
      rename_i qr hqr
      have e1 : (qvs ++ [V.ref w1]).length = qvs.length + 1 := by simp only [List.length_append, List.length_singleton]
      rw [e1]
      have sF := Same.new (o := HO.tup [V.str "handle", V.int (qvs.length : Nat), V.int (qvs.length + 1 : Nat), V.ref cd]) (Same.refl H') hqr
      have cvG := cvF.same sF
      have kpG := cvG.kpush (o := .lst ([] ++ [V.ref qr]))
      have leG := Kp.le (K := K) kpG cvG.hl cvG.hu
      have leF := (Le.same (K := K) sF).trans leG
      have kF := (Kp.same (l := l) (lu := lu) sF).trans kpG
      have leH := st.le.trans leF
      have ncq2 : q2 ≠ cd := ne_of_none hq23 hcd
      have kH : ∀ b o, b ≠ l → b ≠ lu → H3 b = some o → _ = some o := fun b o n1 n2 e => kF b o n1 n2 (st.kp b o n2 (ne_of_none e hcd) (kp34 b o n1 n2 e))
      refine k _ qr cd t1 t2 (.ref w1) (.ref w2) (.ref w3) (.ref w4) (fun b o n1 n2 e => kH b o n1 n2 (kq3 b o n1 n2 (s12 _ _ (kq1 b o n1 n2 e)))) upd_same (leG _ _ (sqt_of (K := K) upd_same)) (kF _ _ ncl ncu st.hd) (leF _ _ ht1) (leF _ _ ht2) ?_ ?_ ?_
      · rw [cvG.push.hu]
        simp only [List.append_assoc, List.cons_append, List.nil_append]
      · exact ⟨w1, vd, rfl, leH _ _ (le34 _ _ (le13 _ _ (sqt_of et1))), ((rd.mono le3).mono le34).mono leH⟩
      · refine ⟨.ref w2, _, rfl, ⟨w2, ve2, q2, rfl, leH _ _ (le34 _ _ (sqt_of et3)), ((re2.mono le3).mono le34).mono leH, kH _ _ nl2 nu2 hq23, nl2, nu2⟩, .ref w3, _, rfl, hq3.mono leF kF, .ref w4, _, rfl, hq4.mono leF kF, rfl⟩

end
set_option maxRecDepth 100000
set_option maxHeartbeats 400000
section
variable {P : Program} {w : World} {K : PySem.W.Frag} {mg : Str → Option Value} {base : Heap}

/-- what a handler's compiling gives -/
def HOut (K : PySem.W.Frag) (H H' : Hp) (l lu nl : Addr) (qvs : List V) (d : D) (h : Hd) (qr cd : Addr) (rs : List V) : Prop :=
  ∃ t1 t2 w1 w2 w3 w4, Kp H H' l lu ∧ H' l = some (.lst (.ref qr :: rs)) ∧ SqT K H' qr [.str "handle", .int qvs.length, .int (qvs.length + 1 : Nat), .ref cd] ∧ H' cd = some (.dK [(.inr "get", .ref t1), (.inr "put", .ref t2)]) ∧ SqT K H' t1 [.int (qvs.length + 2 : Nat), .bl false] ∧ SqT K H' t2 [.int (qvs.length + 3 : Nat), .bl false] ∧
    H' lu = some (.lst (qvs ++ [w1, w2, w3, w4])) ∧ (∃ t ve, w1 = .ref t ∧ SqT K H' t [ve, .ref nl] ∧ Rep K H' d ve) ∧ QReps K H' l lu [(h.e, [h.x]), (h.g, [h.u, .k]), (h.p, [h.n, .k])] [w2, w3, w4]
theorem ok_valueH (T : Txt w K mg) (m_Compiler_handler : C8.Met P w K mg base 3 (He.ga K "Compiler") "handler" (sp_handler K) []) : C8.Met P w K mg base 4 (He.ga K "Compiler") "value" (sp_handler K) [] := by
  refine metD (k := 3) T.cCompiler T.mCompiler_value T.f_Compiler_value sc_Compiler_value (fun _ _ _ _ _ _ us hl => match us, hl with | [_, _, _, _], _ => rfl) (fun vs H Q Ex h => ?_) (fun cdv A outer s H vs Q Ex hr h => ⟨_, (pss_cons (ps_set (i := 4) sc_Compiler_value.nd rfl (by first | exact Or.inl rfl | exact Or.inr rfl) (pe_ix ix_2 (pv 2) pe_int (fun _ _ => rfl))) (pss_one (ps_if (pt_cmpR op_inK (pv 4) (pe_glob (v := V.ref (He.ga K "LEAVES_code")) (by rfl) T.g_LEAVES_code rfl) (by rfl)) pss_never (pss_one (ps_if (pt_cmpR op_eq (pv 4) pe_str (by rfl)) pss_never (pss_one (ps_if (pt_cmpR op_eq (pv 4) pe_str (by rfl)) pss_never (pss_one (ps_if (pt_cmpR op_eq (pv 4) pe_str (by rfl)) pss_never (pss_one (ps_if (pt_cmpR op_eq (pv 4) pe_str (by rfl)) pss_never (pss_one (ps_if (pt_cmpR op_eq (pv 4) pe_str (by rfl)) pss_never (pss_one (ps_if (pt_cmpR op_eq (pv 4) pe_str (by rfl)) pss_never (pss_one (ps_if (pt_cmpR op_eq (pv 4) pe_str (by rfl)) (pss_one (ps_expr (C8.pe_mt m_Compiler_handler hr (by omega) (pv 0) (pa_cons (pv 1) (pa_cons (pv 2) (pa_cons (pv 3) pa_nil)))))) pss_never))))))))))))))))), ?_⟩)
  · obtain ⟨x, dx, lb, lu, l, nl, qvs, d, h, ve, xg, xp, eg, ep, rfl, _⟩ := h
    rfl
  · obtain ⟨x, dx, lb, lu, l, nl, qvs, d, h, ve, xg, xp, eg, ep, rfl, cv, re, eg1, ep1, hz, k⟩ := h
    rw [st_Compiler_value]
    have ho := cv.ho
    obtain ⟨ar, _, rfl, har, _, _, rfl, rfl, vd, _, rfl, rd, _, _, rfl, r2, _, _, rfl, r3, rfl⟩ := id re
    walk_at "w"
    refine ⟨_, _, _, rfl, rfl, T.leaves, T.lv_no "handle" (by simp), ?_⟩
    walk_at "w"
    refine ⟨x, dx, lb, lu, l, nl, qvs, d, h, _, xg, xp, eg, ep, rfl, cv, re, eg1, ep1, hz, fun H' qr cd t1 t2 w1 w2 w3 w4 a1 a2 a3 a4 a5 a6 a7 a8 a9 => ?_⟩
    walk_at "w"
    exact k H' qr cd t1 t2 w1 w2 w3 w4 a1 a2 a3 a4 a5 a6 a7 a8 a9

def sp_lastT (K : PySem.W.Frag) : Sp := fun vs H Q _ => ∃ (x dx lb lu l nl : Addr) (qvs : List V) (d : D) (h : Hd) (i : Int) (ve : V) (xg xp : Nm) (eg ep : E), vs = [.ref x, .ref l, ve, .ref nl] ∧ CvAt K H x dx lb lu l nl qvs [] [] ∧ Rep K H (.tup [.str "call", .tup [.str "handle", d, Hd.ret h, Hd.cls h], (E.num i).d]) ve ∧ h.g = .fn xg eg ∧ h.p = .fn xp ep ∧ qvs.length ≤ 100 ∧
  ∀ H' qr cd r1 r2, HOut K H H' l lu nl qvs d h qr cd [r1, r2] → Reps K H' [vi i, rowB "tail"] [r1, r2] → Q .non H'
theorem b_ok_lastT (T : Txt w K mg) (m_Compiler_value : C8.Met P w K mg base 3 (He.ga K "Compiler") "value" (sp_val K 1) []) (m_Compiler_valueH : C8.Met P w K mg base 4 (He.ga K "Compiler") "value" (sp_handler K) []) : Body P w K mg base nm_Compiler_last "Compiler.last" s_Compiler_last 4 (He.ma K (He.ga K "Compiler") "last") (sp_lastT K) := by
  refine fun cdv A outer s H vs Q Ex hr h => ⟨_, (pss_cons (ps_set (i := 4) sc_Compiler_last.nd rfl (by first | exact Or.inl rfl | exact Or.inr rfl) (pe_ix ix_2 (pv 2) pe_int (fun _ _ => rfl))) (pss_one (ps_if (pt_cmpR op_eq (pv 4) pe_str (by rfl)) (pss_cons (ps_expr (C8.pe_mt m_Compiler_valueH hr (by omega) (pv 0) (pa_cons (pv 1) (pa_cons (pe_ix ix_2 (pv 2) pe_int (fun _ _ => rfl)) (pa_cons (pv 3) pa_nil))))) (pss_cons (ps_expr (C8.pe_mt m_Compiler_value hr (by omega) (pv 0) (pa_cons (pv 1) (pa_cons (pe_ix ix_2 (pv 2) pe_int (fun _ _ => rfl)) (pa_cons (pv 3) pa_nil))))) (pss_one (ps_expr (pe_bm PySem.F.plainAttrs_list PySem.F.slot_list_append PySem.F.type_list_append mt_append (pv 1) (pa_cons (pe_tup (pa_cons pe_str pa_nil)) pa_nil)))))) (pss_one (ps_if (pt_cmpR op_eq (pv 4) pe_str (by rfl)) pss_never (pss_one (ps_if (pt_cmpR op_eq (pv 4) pe_str (by rfl)) pss_never (pss_one (ps_if (pt_cmpR op_eq (pv 4) pe_str (by rfl)) pss_never pss_never))))))))), ?_⟩
  · obtain ⟨x, dx, lb, lu, l, nl, qvs, d, h, i, ve, xg, xp, eg, ep, rfl, cv, re, eg1, ep1, hz, k⟩ := h
    rw [st_Compiler_last]
    have ho := cv.ho
    obtain ⟨ar, _, rfl, har, _, _, rfl, rfl, vd, _, rfl, rd, _, _, rfl, r2, rfl⟩ := id re
    walk_at "w"
    refine ⟨x, dx, lb, lu, l, nl, qvs, d, h, _, xg, xp, eg, ep, rfl, cv, rd, eg1, ep1, hz, fun H1 qr cd t1 t2 w1 w2 w3 w4 a1 a2 a3 a4 a5 a6 a7 a8 a9 => ?_⟩
    have cv1 := cv.next a1 (rs := [.ref qr]) a2 a7
    have ho1 := cv1.ho
    have le1 : Le K H H1 := Kp.le a1 cv.hl cv.hu
    have r21 := r2.mono le1
    have har1 := le1 _ _ har
    walk_at "w"
    refine ⟨x, dx, lb, lu, l, nl, _, _, .num i, [], _, rfl, cv1, r21, ⟨trivial, by show 1 ≤ 1; omega⟩, trivial, by show ([] ++ [V.ref qr]).length + 3 * 1 ≤ 50000; simp, by show (qvs ++ [w1, w2, w3, w4]).length + 1 ≤ 50000; simp only [List.length_append, List.length_cons, List.length_nil]; omega, by show 0 + 2 * 1 ≤ 500; omega, fun H2 rs2 qn2 kp2 hl2 rr2 hu2 rq2 => ?_⟩
    obtain rfl : qn2 = [] := rq2
    obtain ⟨r1, _, rfl, rr1, rfl⟩ := rr2
    have cv2 := cv1.next kp2 hl2 hu2
    have hl2' := cv2.hl
    have le2 : Le K H1 H2 := Kp.le kp2 cv1.hl cv1.hu
    walk_at "w"
    rename_i r2' hr2'
    have s3 := Same.new (o := HO.tup [V.str "tail"]) (Same.refl _) hr2'
    have cv3 := cv2.same s3
    have kp3 := cv3.kpush (o := .lst (([] ++ [V.ref qr] ++ [r1]) ++ [V.ref r2']))
    have le3 := Kp.le (K := K) kp3 cv3.hl cv3.hu
    have le4 := (Le.same (K := K) s3).trans le3
    have kp4 := (Kp.same (l := l) (lu := lu) s3).trans kp3
    have le14 := le2.trans le4
    have kp14 := kp2.trans kp4
    have ncl : cd ≠ l := ne_dK_lst a4 a2
    have ncu : cd ≠ lu := ne_dK_lst a4 a7
    obtain ⟨b1, b2, b3, b4, b5⟩ := a8
    refine k _ qr cd r1 (.ref r2') ⟨t1, t2, w1, w2, w3, w4, a1.trans kp14, upd_same, le14 _ _ a3, kp14 _ _ ncl ncu a4, le14 _ _ a5, le14 _ _ a6, ?_, ⟨b1, b2, b3, le14 _ _ b4, b5.mono le14⟩, a9.mono le14 kp14⟩ ?_
    · rw [cv3.push.hu, List.append_nil]
    · exact Reps.cons (rr1.mono le4) (Reps.cons (Rep.mk (le3 _ _ (sqt_of (K := K) upd_same)) (Reps.cons rfl rfl)) rfl)
theorem ok_lastT (T : Txt w K mg) (m_Compiler_value : C8.Met P w K mg base 3 (He.ga K "Compiler") "value" (sp_val K 1) []) (m_Compiler_valueH : C8.Met P w K mg base 4 (He.ga K "Compiler") "value" (sp_handler K) []) : C8.Met P w K mg base (4 + 1) (He.ga K "Compiler") "last" (sp_lastT K) [] :=
  metD (k := 4) T.cCompiler T.mCompiler_last T.f_Compiler_last sc_Compiler_last (fun _ _ _ _ _ _ us hl => match us, hl with | [_, _, _, _], _ => rfl) (fun vs H Q Ex h => by obtain ⟨x, dx, lb, lu, l, nl, qvs, d, h, i, ve, xg, xp, eg, ep, rfl, _⟩ := h; rfl) (b_ok_lastT T m_Compiler_value m_Compiler_valueH)

def sp_lastA (K : PySem.W.Frag) (n : Nat) : Sp := fun vs H Q E => sp_lastT K vs H Q E ∨ sp_last K n vs H Q E
/-- last: at the top, and anywhere else -/
theorem ok_lastA (T : Txt w K mg) (m_Compiler_block : C8.Met P w K mg base 1 (He.ga K "Compiler") "block" (sp_block K) []) (m_Compiler_valueH : C8.Met P w K mg base 4 (He.ga K "Compiler") "value" (sp_handler K) []) : C8.Met P w K mg base 74 (He.ga K "Compiler") "last" (sp_lastA K 24) [] := by
  refine metD (k := 73) T.cCompiler T.mCompiler_last T.f_Compiler_last sc_Compiler_last (fun _ _ _ _ _ _ us hl => match us, hl with | [_, _, _, _], _ => rfl) (fun vs H Q Ex h => ?_) (fun cdv A outer s H vs Q Ex hr h => ?_)
  · rcases h with h | h
    · obtain ⟨x, dx, lb, lu, l, nl, qvs, d, h, i, ve, xg, xp, eg, ep, rfl, _⟩ := h
      rfl
    · obtain ⟨x, dx, lb, lu, l, nl, qvs, vs0, e, ns, ve, rfl, _⟩ := h
      rfl
  · rcases h with h | h
    · exact b_ok_lastT T (ok_value T m_Compiler_block 1) m_Compiler_valueH cdv A outer s H vs Q Ex (hr.mono (by omega)) h
    · exact b_ok_last_s T 73 49 23 24 (by omega) (by omega) (ok_value T m_Compiler_block 24) (ok_last T 49 24 (ok_value T m_Compiler_block 24) 23 (by omega)) cdv A outer s H vs Q Ex hr h

end
set_option maxRecDepth 100000
set_option maxHeartbeats 400000
section
variable {P : Program} {w : World} {K : PySem.W.Frag} {mg : Str → Option Value} {base : Heap}

abbrev nm_Compiler_compile_all : List Str := ["self", "expression", "names", "rows"]
theorem sc_Compiler_compile_all : FnScope nm_Compiler_compile_all ["self"] (defScope s_Compiler_compile_all) := ⟨rfl, rfl, rfl, by decide +kernel, rfl, by decide +kernel, by decide +kernel⟩
theorem st_Compiler_compile_all {a0 : V} : L2.start nm_Compiler_compile_all [a0] = [some a0, none, none, none] := rfl

/-- the compiler between two blocks; the queue's first entry is vs's head -/
structure CSt (K : PySem.W.Frag) (H : Hp) (x dx lb lu cd : Addr) (w0 : V) (bs : List (Addr × List D)) (qs : List (E × List Nm)) (vs : List V) : Prop where
  ho : H x = some (.ins (cCp K) dx (cpF lb lu))
  hb : H lb = some (.lst (bs.map fun b => V.ref b.1))
  hu : H lu = some (.lst (w0 :: vs))
  ne : lb ≠ lu
  qr : QReps K H lb lu qs vs
  br : ∀ b ∈ bs, b.1 ≠ lu ∧ b.1 ≠ lb ∧ ∃ us, H b.1 = some (.lst us) ∧ Reps K H b.2 us
  cl : ∃ t1 t2, H cd = some (.dK [(.inr "get", .ref t1), (.inr "put", .ref t2)]) ∧ SqT K H t1 [.int (3 : Nat), .bl false] ∧ SqT K H t2 [.int (4 : Nat), .bl false]
abbrev row0 (cd : Addr) (i : Int) : List D := [.tup [.str "handle", .int (1 : Nat), .int (2 : Nat), .adr cd], vi i, rowB "tail"]
/-- what the compiler gives -/
def CGot (K : PySem.W.Frag) (H : Hp) (sh : Bool) (ds : List Deed) (i : Int) (c : Cd) : Prop :=
  CdAt K H c ∧ (∃ a0, c.bs[0]? = some (a0, row0 c.cl i)) ∧ c.gb = 3 ∧ c.pb = 4 ∧ ∃ qs, Cmp c (((E.unit, ([] : List Nm)) :: (lawQ sh ds)) ++ qs)
theorem QReps.at {K : PySem.W.Frag} {H : Hp} {l u : Addr} : ∀ {qs : List (E × List Nm)} {vs : List V} {i : Nat} {q : E × List Nm}, QReps K H l u qs vs → qs[i]? = some q → ∃ v, vs[i]? = some v ∧ QRep K H l u q v
  | [], _, _, _, _, h => by simp at h
  | q :: _, _, 0, _, ⟨v, t, e, a, b⟩, h => by
    simp at h
    rw [e]
    exact ⟨v, rfl, h ▸ a⟩
  | _ :: _, _, i + 1, _, ⟨v, t, e, a, b⟩, h => by
    obtain ⟨v, h1, h2⟩ := QReps.at (i := i) b (by simpa using h)
    exact ⟨v, by rw [e]; simpa using h1, h2⟩
theorem QReps.to {K : PySem.W.Frag} {H : Hp} {l u l' : Addr} : ∀ {qs : List (E × List Nm)} {vs : List V}, (∀ q ∈ qs, ∀ nl, H nl = some (.lst (nmV q.2)) → nl ≠ l → nl ≠ u → nl ≠ l') → QReps K H l u qs vs → QReps K H l' u qs vs
  | [], _, _, h => h
  | q :: _, _, f, ⟨v, t, e, ⟨t', ve, nl, a, b, c, d, n1, n2⟩, r⟩ => ⟨v, t, e, ⟨t', ve, nl, a, b, c, d, f q List.mem_cons_self nl d n1 n2, n2⟩, QReps.to (fun q' hq => f q' (List.mem_cons_of_mem _ hq)) r⟩
theorem nm_ref {ns : List Nm} {a : Addr} {r : List V} : nmV ns ≠ V.ref a :: r := by
  cases ns with
  | nil => intro h; cases h
  | cons y ns => intro h; cases h
def sp_compile_all (K : PySem.W.Frag) : Sp := fun vs H Q _ => ∃ (x dx lb lu nl : Addr) (w0 : Addr) (sh : Bool) (ds : List Deed) (i : Int) (ve : V), vs = [.ref x] ∧ ds.length ≤ 13 ∧ H x = some (.ins (cCp K) dx (cpF lb lu)) ∧ H lb = some (.lst []) ∧ H lu = some (.lst [.ref w0]) ∧ lb ≠ lu ∧ SqT K H w0 [ve, .ref nl] ∧ H nl = some (.lst []) ∧ nl ≠ lb ∧ nl ≠ lu ∧ Rep K H (topD sh ds i) ve ∧
  ∀ H' c, Le K H H' → H' x = some (.ins (cCp K) dx (cpF c.bl lu)) → CGot K H' sh ds i c → Q .non H'
theorem ok_compile_all (T : Txt w K mg) (m_Compiler_last : C8.Met P w K mg base 74 (He.ga K "Compiler") "last" (sp_lastA K 24) []) : C8.Met P w K mg base 75 (He.ga K "Compiler") "compile_all" (sp_compile_all K) [] := by
  refine metD (k := 74) T.cCompiler T.mCompiler_compile_all T.f_Compiler_compile_all sc_Compiler_compile_all (fun _ _ _ _ _ _ us hl => match us, hl with | [_], _ => rfl) (fun vs H Q Ex h => ?_) (fun cdv A outer s H vs Q Ex hr h => ⟨_, (pss_one (ps_while PassesOwn.never (pt_cmpR op_lt (pe_callB call_len2 (by rfl) T.z_len PySem.boot_len (pa_cons (pe_g T.cCompiler T.nCompiler_blocks (pv 0)) pa_nil)) (pe_callB call_len2 (by rfl) T.z_len PySem.boot_len (pa_cons (pe_g T.cCompiler T.nCompiler_queue (pv 0)) pa_nil)) (by rfl)) (pss_cons (ps_asg (pe_ix ix_2 (pe_g T.cCompiler T.nCompiler_queue (pv 0)) (pe_callB call_len2 (by rfl) T.z_len PySem.boot_len (pa_cons (pe_g T.cCompiler T.nCompiler_blocks (pv 0)) pa_nil)) (fun _ _ => rfl)) (pg_tup rfl (pgs_cons (pg_name (i := 1) sc_Compiler_compile_all.nd rfl (by first | exact Or.inl rfl | exact Or.inr rfl)) (pgs_cons (pg_name (i := 2) sc_Compiler_compile_all.nd rfl (by first | exact Or.inl rfl | exact Or.inr rfl)) pgs_nil)))) (pss_cons (ps_set (i := 3) sc_Compiler_compile_all.nd rfl (by first | exact Or.inl rfl | exact Or.inr rfl) (pe_lst pa_nil)) (pss_cons (ps_expr (C8.pe_mt m_Compiler_last hr (by omega) (pv 0) (pa_cons (pv 3) (pa_cons (pv 1) (pa_cons (pv 2) pa_nil))))) (pss_one (ps_expr (pe_bm PySem.F.plainAttrs_list PySem.F.slot_list_append PySem.F.type_list_append mt_append (pe_g T.cCompiler T.nCompiler_blocks (pv 0)) (pa_cons (pv 3) pa_nil))))))))), ?_⟩)
  · obtain ⟨x, dx, lb, lu, nl, w0, sh, ds, i, ve, rfl, _⟩ := h
    rfl
  · obtain ⟨x, dx, lb, lu, nl, w0, sh, ds, i, ve, rfl, hds, ho, hb, hu, nbu, hw0, hnl, nlb, nlu, re, k⟩ := h
    rw [st_Compiler_compile_all]
    walk_at "w"
    refine ⟨fun m σ H' => (∃ v1 v2 v3, σ = [some (.ref x), v1, v2, v3]) ∧ ((H' = H ∧ m = 10000) ∨ (Le K H H' ∧ m < 10000 ∧ ∃ cd bs qs vs, CSt K H' x dx lb lu cd (.ref w0) bs (lawQ sh ds ++ qs) vs ∧ CInv bs (((E.unit, ([] : List Nm)) :: lawQ sh ds) ++ qs) ∧ (∃ a0, bs[0]? = some (a0, row0 cd i)) ∧ m = wt ((((E.unit, ([] : List Nm)) :: lawQ sh ds) ++ qs).drop bs.length))), ⟨10000, ⟨none, none, none, rfl⟩, .inl ⟨rfl, rfl⟩⟩, ?_⟩
    rintro m σ H' ⟨⟨v1, v2, v3, rfl⟩, ⟨rfl, rfl⟩ | ⟨le0, hm, cd, bs, qs, vs, st, inv, hb0, rfl⟩⟩
    · walk_at "w"
      refine ⟨_, fun σ' H'' h => h, ?_⟩
      walk_at "w"
      rename_i l hl0
      have ho1 := get_new (o := HO.lst []) ho hl0
      have hu1 := get_new (o := HO.lst []) hu hl0
      have hb1 := get_new (o := HO.lst []) hb hl0
      have hn1 := get_new (o := HO.lst []) hnl hl0
      have le1 : Le K H' (upd H' l (.lst [])) := Le.new Le.refl hl0
      have nll : nl ≠ l := ne_of_none hnl hl0
      have nbl : lb ≠ l := ne_of_none hb hl0
      have nul : lu ≠ l := ne_of_none hu hl0
      have cv : CvAt K (upd H' l (.lst [])) x dx lb lu l nl [.ref w0] [] [] := ⟨ho1, hu1, upd_same, hn1, nul.symm, nll, nlu⟩
      refine .inl ⟨x, dx, lb, lu, l, nl, _, (treeE ds).d, lawH sh, i, ve, .s, .s, _, _, rfl, cv, re.mono le1, rfl, rfl, by show 1 ≤ 100; omega, fun H2 qr cd r1 r2 ho2 hr2 => ?_⟩
      obtain ⟨t1, t2, w1, w2, w3, w4, a1, a2, a3, a4, a5, a6, a7, ⟨t, vt, rfl, a8, a9⟩, a10⟩ := ho2
      have hob := a1 _ _ (ne_ins_lst ho1 cv.hl) (ne_ins_lst ho1 hu1) ho1
      have hb2 := a1 _ _ nbl nbu hb1
      have hn2 := a1 _ _ nll nlu hn1
      have le2 : Le K H' H2 := le1.trans (Kp.le a1 cv.hl cv.hu)
      walk_at "w"
      have le3 : Le K H2 (upd H2 lb (HO.lst ([] ++ [V.ref l]))) := Le.lst Le.refl hb2
      have kp3 : Kp H2 (upd H2 lb (HO.lst ([] ++ [V.ref l]))) lb lu := fun b _ n _ e => get_ne e n
      have hne : ∀ (ns : List Nm) (q : Addr), ns ≠ [] → H2 q = some (.lst (nmV ns)) → q ≠ lb := fun ns q n e e2 => by
        rw [e2, hb2] at e
        cases ns with
        | nil => exact n rfl
        | cons y r => cases e
      have a10' : QReps K H2 lb lu [((lawH sh).e, [(lawH sh).x]), ((lawH sh).g, [(lawH sh).u, .k]), ((lawH sh).p, [(lawH sh).n, .k])] [w2, w3, w4] := a10.to fun q hq q' hq' _ _ => hne _ _ (by
        simp only [List.mem_cons, List.not_mem_nil, or_false] at hq
        rcases hq with rfl | rfl | rfl <;> exact List.cons_ne_nil _ _) hq'
      have i0 : CInv [(l, row0 cd i)] ((E.unit, ([] : List Nm)) :: lawQ sh ds ++ []) := by rw [List.append_nil]; exact CInv.start hds
      have b0 := i0.bd
      have hm : wt (((E.unit, ([] : List Nm)) :: lawQ sh ds ++ []).drop [(l, row0 cd i)].length) < 10000 := by omega
      refine ⟨_, hm, ⟨_, _, _, rfl⟩, .inr ⟨le2.trans le3, hm, cd, [(l, row0 cd i)], [], [.ref t, w2, w3, w4], ⟨get_kind hob hb2 rfl, upd_same, get_ne a7 nbu.symm, nbu, ?_, ?_, ?_⟩, i0, ⟨l, rfl⟩, rfl⟩⟩
      · rw [List.append_nil]
        exact QReps.mono le3 kp3 ⟨_, _, rfl, ⟨t, vt, nl, rfl, a8, a9, hn2, nlb, nlu⟩, a10'⟩
      · intro b hb
        obtain rfl := List.mem_singleton.mp hb
        exact ⟨nul.symm, nbl.symm, _, get_ne a2 nbl.symm, Reps.cons (Rep.mk (le3 _ _ a3) (Reps.cons rfl (Reps.cons rfl (Reps.cons rfl (Reps.cons rfl rfl))))) (hr2.mono le3)⟩
      · exact ⟨t1, t2, get_kind a4 hb2 rfl, le3 _ _ a5, le3 _ _ a6⟩
    · have ho' := st.ho
      have hb' := st.hb
      have hu' := st.hu
      have lv := st.qr.len
      have ip := inv.pos
      have il := inv.le
      have lQ : ((((E.unit, ([] : List Nm)) :: lawQ sh ds) ++ qs : List (E × List Nm))).length = (lawQ sh ds ++ qs).length + 1 := by rw [List.cons_append, List.length_cons]
      have lbm : (bs.map fun b => V.ref b.1).length = bs.length := List.length_map ..
      walk_at "w"
      by_cases hc : bs.length < (lawQ sh ds ++ qs).length + 1
      · rw [if_pos (by rw [decide_eq_true_eq, lbm, List.length_cons, lv]; omega)]
        obtain ⟨⟨e, ns⟩, he⟩ : ∃ y, (((E.unit, ([] : List Nm)) :: lawQ sh ds) ++ qs : List (E × List Nm))[bs.length]? = some y := ⟨_, List.getElem?_eq_getElem (by omega)⟩
        have he' : (lawQ sh ds ++ qs)[bs.length - 1]? = some (e, ns) := by
          rw [show bs.length = (bs.length - 1) + 1 by omega] at he
          exact he
        obtain ⟨v, hv, t, ve', nl', rfl, ht, hre, hn, n1, n2⟩ := st.qr.at he'
        have hat : atI (V.ref w0 :: vs) (((bs.map fun b => V.ref b.1).length : Nat) : Int) = some (.ref t) := by
          rw [lbm]
          refine atI_nat ?_
          rw [show bs.length = (bs.length - 1) + 1 by omega]
          exact hv
        refine ⟨_, fun σ' H'' h => h, ?_⟩
        walk_at "w"
        rename_i l hl0
        have ho1 := get_new (o := HO.lst []) ho' hl0
        have hu1 := get_new (o := HO.lst []) hu' hl0
        have hb1 := get_new (o := HO.lst []) hb' hl0
        have hn1 := get_new (o := HO.lst []) hn hl0
        have s1 : Same H' (upd H' l (.lst [])) := Same.new (Same.refl _) hl0
        have le1 : Le K H' (upd H' l (.lst [])) := Le.same s1
        have nll : nl' ≠ l := ne_of_none hn hl0
        have nbl : lb ≠ l := ne_of_none hb' hl0
        have nul : lu ≠ l := ne_of_none hu' hl0
        have cv : CvAt K (upd H' l (.lst [])) x dx lb lu l nl' (.ref w0 :: vs) [] ns := ⟨ho1, hu1, upd_same, hn1, nul.symm, nll, n2⟩
        obtain ⟨o1, o2, o3⟩ := inv.ok _ (List.mem_of_getElem? he)
        have o1 : e.clo ns := o1
        have o2 : e.dep ≤ 24 := o2
        have o3 : ns.length + 2 * e.dep ≤ 100 := o3
        obtain ⟨inv2, hlt⟩ := inv.step (a := l) he
        have bd := inv.bd
        have hw : e.size ≤ wt ((((E.unit, ([] : List Nm)) :: lawQ sh ds) ++ qs).drop bs.length) := by
          rw [drop_at he]
          exact Nat.le_add_right _ _
        have lqv : (V.ref w0 :: vs).length = (((E.unit, ([] : List Nm)) :: lawQ sh ds) ++ qs : List (E × List Nm)).length := by rw [List.length_cons, lv, lQ]
        refine .inr ⟨x, dx, lb, lu, l, nl', _, [], e, ns, ve', rfl, cv, hre.mono le1, ⟨trivial, o2⟩, o1, by rw [List.length_nil]; omega, by rw [lqv]; omega, by omega, fun H2 rs qn kp2 hl2 rr2 hu2 rq2 => ?_⟩
        rw [lqv] at rr2
        have hob := kp2 _ _ (ne_ins_lst ho1 cv.hl) (ne_ins_lst ho1 hu1) ho1
        have hb2 := kp2 _ _ nbl st.ne hb1
        have le2 : Le K (upd H' l (.lst [])) H2 := Kp.le kp2 cv.hl cv.hu
        have le02 := le1.trans le2
        have hz : (bs.map fun b => V.ref b.1).length ≤ 100000 := by rw [lbm]; omega
        walk_at "w"
        have le3 : Le K H2 (upd H2 lb (HO.lst (bs.map (fun b => V.ref b.1) ++ [V.ref l]))) := Le.lst Le.refl hb2
        have kp3 : Kp H2 (upd H2 lb (HO.lst (bs.map (fun b => V.ref b.1) ++ [V.ref l]))) lb lu := fun b _ n _ e => get_ne e n
        have kp12 : Kp H' H2 lb lu := fun b o n1 n2 e => by
          have nl : b ≠ l := ne_of_none e hl0
          exact kp2 _ _ nl n2 (s1 _ _ e)
        have hne : ∀ (ns : List Nm) (q : Addr), H2 q = some (.lst (nmV ns)) → q ≠ lb := fun ns q e e2 => by
          rw [e2, hb2] at e
          cases hbs : bs with
          | nil => rw [hbs] at ip; exact absurd ip (by decide)
          | cons y r =>
            rw [hbs] at e
            cases ns with
            | nil => cases e
            | cons z ns => cases e
        have q1 := (st.qr.mono le02 kp12).mono le3 kp3
        have q2 := (rq2.to (l' := lb) fun q _ q' hq' _ _ => hne _ _ hq').mono le3 kp3
        have eQ : ((E.unit, ([] : List Nm)) :: lawQ sh ds) ++ qs ++ e.qs ns = ((E.unit, ([] : List Nm)) :: lawQ sh ds) ++ (qs ++ e.qs ns) := List.append_assoc ..
        rw [eQ] at inv2 hlt
        have lb1 : (bs ++ [(l, e.last ns 0 (((E.unit, ([] : List Nm)) :: lawQ sh ds) ++ qs : List (E × List Nm)).length)]).length = bs.length + 1 := by rw [List.length_append, List.length_singleton]
        rw [← lb1] at hlt
        refine ⟨_, hlt, ⟨_, _, _, rfl⟩, .inr ⟨(le0.trans le02).trans le3, Nat.lt_trans hlt hm, cd, bs ++ [(l, e.last ns 0 (((E.unit, ([] : List Nm)) :: lawQ sh ds) ++ qs : List (E × List Nm)).length)], qs ++ e.qs ns, vs ++ qn, ⟨get_kind hob hb2 rfl, ?_, ?_, st.ne, ?_, ?_, ?_⟩, inv2, ?_, rfl⟩⟩
        · rw [upd_same, List.map_append]
          rfl
        · exact get_ne hu2 st.ne.symm
        · rw [← List.append_assoc]
          exact QReps.app q1 q2
        · intro b hb
          rcases List.mem_append.mp hb with hb | hb
          · obtain ⟨m1, m2, us, m3, m4⟩ := st.br b hb
            exact ⟨m1, m2, us, get_ne (kp12 _ _ m2 m1 m3) m2, (m4.mono le02).mono le3⟩
          · obtain rfl := List.mem_singleton.mp hb
            exact ⟨nul.symm, nbl.symm, _, get_ne hl2 nbl.symm, rr2.mono le3⟩
        · obtain ⟨t1, t2, c1, c2, c3⟩ := st.cl
          exact ⟨t1, t2, get_kind (kp12 _ _ (ne_dK_lst c1 hb') (ne_dK_lst c1 hu') c1) hb2 rfl, le3 _ _ (le02 _ _ c2), le3 _ _ (le02 _ _ c3)⟩
        · obtain ⟨a0, h0⟩ := hb0
          exact ⟨a0, get_left h0⟩
      · rw [if_neg (by rw [decide_eq_true_eq, lbm, List.length_cons, lv]; omega)]
        walk_at "w"
        have hl : bs.length = (((E.unit, ([] : List Nm)) :: lawQ sh ds) ++ qs : List (E × List Nm)).length := by omega
        exact k _ ⟨lb, bs, cd, 3, 4⟩ le0 ho' ⟨⟨hb', fun b hb => (st.br b hb).2.2, st.cl⟩, hb0, rfl, rfl, qs, CInv.cmp (c := ⟨lb, bs, cd, 3, 4⟩) inv hl⟩

end
set_option maxRecDepth 100000
set_option maxHeartbeats 400000
section
variable {P : Program} {w : World} {K : PySem.W.Frag} {mg : Str → Option Value} {base : Heap}

theorem pe_mk0 {X : Cx} {k j : Nat} {C : Addr} {x : Str} {sp : Sp} {dvs : List V} {p pos : Pos} (c : C8.Mak X.prog X.w X.K X.mg X.base k x C sp dvs) (hr : Room j X.A) (hk : k + 1 ≤ j) (hg : Gl X x) (hdb : (x == ("__debug__" : Str)) = false := by decide) : PE X (.Call (.Name x p) [] [] pos) (tMake C sp dvs C8.E0 tNil) := by
  obtain ⟨f, fd, ps, ds, M, F, hm, b, d⟩ := c.ex
  exact pe_make0 M F (hr.mono hk) hg hm b d C8.pass0 hdb
theorem CdAt.same {K : PySem.W.Frag} {H H' : Hp} {c : Cd} (s : Same H H') (h : CdAt K H c) : CdAt K H' c := by
  obtain ⟨a, b, t1, t2, c1, c2, c3⟩ := h
  refine ⟨s _ _ a, fun x hx => ?_, t1, t2, s _ _ c1, Le.same s _ _ c2, Le.same s _ _ c3⟩
  obtain ⟨vs, b1, b2⟩ := b x hx
  exact ⟨vs, s _ _ b1, b2.mono (Le.same s)⟩
theorem CGot.same {K : PySem.W.Frag} {H H' : Hp} {sh : Bool} {ds : List Deed} {i : Int} {c : Cd} (s : Same H H') (h : CGot K H sh ds i c) : CGot K H' sh ds i c := ⟨h.1.same s, h.2⟩
abbrev nm_compile_expression : List Str := ["expression", "compiler"]
theorem sc_compile_expression : FnScope nm_compile_expression ["expression"] (defScope s_compile_expression) := ⟨rfl, rfl, rfl, by decide +kernel, rfl, by decide +kernel, by decide +kernel⟩
theorem st_compile_expression {a0 : V} : L2.start nm_compile_expression [a0] = [some a0, none] := rfl

def sp_compile (K : PySem.W.Frag) : Sp := fun vs H Q _ => ∃ (sh : Bool) (ds : List Deed) (i : Int) (ve : V), vs = [ve] ∧ ds.length ≤ 13 ∧ Rep K H (topD sh ds i) ve ∧
  ∀ H' y dy c, Le K H H' → H' y = some (.ins (He.ga K "Code") dy [("blocks", .ref c.bl)]) → CGot K H' sh ds i c → Q (.ref y) H'
theorem ok_compile (T : Txt w K mg) (k_Compiler : C8.Mak P w K mg base 1 "Compiler" (He.ga K "Compiler") (sp_Cp_init K) []) (m_Compiler_block : C8.Met P w K mg base 1 (He.ga K "Compiler") "block" (sp_block K) []) (m_Compiler_compile_all : C8.Met P w K mg base 75 (He.ga K "Compiler") "compile_all" (sp_compile_all K) []) (k_Code : C8.Mak P w K mg base 1 "Code" (He.ga K "Code") (sp_Code_init K) []) : C8.Cal P w K mg base 76 "compile_expression" (sp_compile K) [] := by
  refine calD (k := 75) T.f_compile_expression T.g_compile_expression sc_compile_expression (fun _ _ _ _ _ _ us hl => match us, hl with | [_], _ => rfl) (fun vs H Q Ex h => ?_) (fun cdv A outer s H vs Q Ex hr h => ⟨_, (pss_cons (ps_set (i := 1) sc_compile_expression.nd rfl (by first | exact Or.inl rfl | exact Or.inr rfl) (pe_mk0 k_Compiler hr (by omega) (by rfl))) (pss_cons (ps_expr (C8.pe_mt m_Compiler_block hr (by omega) (pv 1) (pa_cons (pv 0) (pa_cons (pe_lst pa_nil) pa_nil)))) (pss_cons (ps_expr (C8.pe_mt0 m_Compiler_compile_all hr (by omega) (pv 1))) (pss_one (ps_ret (C8.pe_mk k_Code hr (by omega) (by rfl) (pa_cons (pe_g T.cCompiler T.nCompiler_blocks (pv 1)) pa_nil))))))), ?_⟩)
  · obtain ⟨sh, ds, i, ve, rfl, _⟩ := h
    rfl
  · obtain ⟨sh, ds, i, ve, rfl, hds, re, k⟩ := h
    rw [st_compile_expression]
    walk_at "w"
    intro x dx hx hdx ndx
    refine ⟨x, dx, rfl, upd_same, fun H1 lb lu f1 f2 nbu kp ho hb hu => ⟨rfl, ?_⟩⟩
    have s1 : Same H H1 := fun b o e => kp b o (ne_of_none e hx) (get_new (get_new e hdx) (by rw [upd_ne ndx.symm]; exact hx))
    walk_at "w"
    rename_i nl hnl
    have s2 : Same H1 (upd H1 nl (HO.lst [])) := Same.new (Same.refl _) hnl
    have ho2 := s2 _ _ ho
    have hu2 := s2 _ _ hu
    have hb2 := s2 _ _ hb
    have nlb : nl ≠ lb := (ne_of_none hb hnl).symm
    have nlu : nl ≠ lu := (ne_of_none hu hnl).symm
    refine ⟨x, dx, lb, lu, nl, ve, [], rfl, ho2, hu2, Nat.zero_le _, fun H2 t ft kp2 et eu => ?_⟩
    have ho3 := kp2 _ _ (ne_ins_lst ho2 hu2) ho2
    have le2 : Le K (upd H1 nl (HO.lst [])) H2 := Le.of fun b u e z => kp2 b u (ne_of e hu2 fun q => by rcases z with ⟨_, rfl⟩ | ⟨_, _, rfl⟩ <;> cases q) e
    have le02 : Le K H H2 := (Le.same (s1.trans s2)).trans le2
    walk_at "w"
    refine ⟨x, dx, lb, lu, nl, t, sh, ds, i, ve, rfl, hds, ho3, kp2 _ _ nbu hb2, eu, nbu, sqt_of et, kp2 _ _ nlu upd_same, nlb, nlu, re.mono le02, fun H3 c le3 ho4 got => ?_⟩
    walk_at "w"
    intro y dy hy hdy ndy
    have s4 : Same H3 (upd (upd (upd H3 dy (.own y)) y (.ins (He.ga K "Code") dy [])) y (.ins (He.ga K "Code") dy [("blocks", .ref c.bl)])) := Same.mut (Same.mut (Same.new (Same.refl _) hdy) hy) hy
    refine ⟨y, dy, _, rfl, upd_same, rfl, ?_⟩
    exact k _ y dy c ((le02.trans le3).after s4) upd_same (got.same s4)

end
set_option maxRecDepth 100000
set_option maxHeartbeats 400000
section
variable {P : Program} {w : World} {K : PySem.W.Frag} {mg : Str → Option Value} {base : Heap}

abbrev nm__law_take : List Str := ["_law_state_here", "_law_most", "_law_cells", "_law_at", "_law_cell", "_law_mixed"]
theorem sc__law_take : FnScope nm__law_take ["_law_state_here", "_law_most"] (defScope s__law_take) := ⟨rfl, rfl, rfl, by decide +kernel, rfl, by decide +kernel, by decide +kernel⟩
theorem st__law_take {a0 a1 : V} : L2.start nm__law_take [a0, a1] = [some a0, some a1, none, none, none, none] := rfl

theorem cmul_c {i j : Int} (h : -1000000 < j) (h2 : j < 1000000) : CMul i j := .inr ⟨by omega, by omega⟩
theorem cdiv_c {i j : Int} (h : 0 < j) (h2 : j < 1000000) : CDiv i j := ⟨h, by omega⟩
local macro_rules | `(tactic| walk_at "w1") => `(tactic| ((with_reducible refine' w_I ?h ?_); (case h => first | exact cmul_c (by decide) (by decide) | exact cdiv_c (by decide) (by decide))))
/-! ### the law's state: where it stands, its cells -/
def StAt (H : Hp) (p q : Addr) : Prop := ∃ (j : Int) (cs : List Int), H p = some (.lst [.int j, .ref q]) ∧ H q = some (.lst (cs.map V.int)) ∧ cs ≠ [] ∧ cs.length ≤ 63 ∧ (∀ c ∈ cs, 0 ≤ c) ∧ p ≠ q
def Kq (H H' : Hp) (p q : Addr) : Prop := ∀ b o, b ≠ p → b ≠ q → H b = some o → H' b = some o
def sp_take : Sp := fun vs H Q _ => ∃ (p q : Addr) (m : Int), vs = [.ref p, .int m] ∧ StAt H p q ∧ 0 < m ∧ m ≤ 1000000 ∧ ∀ H' r, StAt H' p q → Kq H H' p q → 0 ≤ r → r < m → Q (.int r) H'
theorem ok_take (T : Txt w K mg) : C8.Cal P w K mg base 1 "_law_take" sp_take [] := by
  refine calD (k := 0) T.f__law_take T.g__law_take sc__law_take (fun _ _ _ _ _ _ us hl => match us, hl with | [_, _], _ => rfl) (fun vs H Q Ex h => ?_) (fun cdv A outer s H vs Q Ex hr h => ⟨_, (pss_cons (ps_set (i := 2) sc__law_take.nd rfl (by first | exact Or.inl rfl | exact Or.inr rfl) (pe_ix ix_2 (pv 0) pe_int (fun _ _ => rfl))) (pss_cons (ps_set (i := 3) sc__law_take.nd rfl (by first | exact Or.inl rfl | exact Or.inr rfl) (pe_op op_mod (pe_ix ix_2 (pv 0) pe_int (fun _ _ => rfl)) (pe_callB call_len2 (by rfl) T.z_len PySem.boot_len (pa_cons (pv 2) pa_nil)))) (pss_cons (ps_set (i := 4) sc__law_take.nd rfl (by first | exact Or.inl rfl | exact Or.inr rfl) (pe_ix ix_2 (pv 2) (pv 3) (fun _ _ => rfl))) (pss_cons (ps_if (pt_cmpR op_ge (pv 4) pe_int (by rfl)) (pss_cons (ps_asg (pe_op op_fdiv (pv 4) (pv 1)) (pg_sub (pv 2) (pv 3) set_list)) (pss_one (ps_ret (pe_op op_mod (pv 4) (pv 1))))) pss_nil) (pss_cons (ps_asg (pe_op op_plus (pe_ix ix_2 (pv 0) pe_int (fun _ _ => rfl)) pe_int) (pg_sub (pv 0) pe_int set_list)) (pss_cons (ps_set (i := 5) sc__law_take.nd rfl (by first | exact Or.inl rfl | exact Or.inr rfl) (pe_op op_mod (pe_callTy call_int (by rfl) T.z_int (by decide +kernel) (pa_cons (pe_op op_plus (pe_op op_mul (pv 4) pe_int) (pe_op op_mul (pe_ix ix_2 (pv 0) pe_int (fun _ _ => rfl)) pe_int)) pa_nil)) pe_int)) (pss_cons (ps_set (i := 5) sc__law_take.nd rfl (by first | exact Or.inl rfl | exact Or.inr rfl) (pe_op op_mod (pe_callTy call_int (by rfl) T.z_int (by decide +kernel) (pa_cons (pe_op op_plus (pe_op op_mul (pv 5) pe_int) (pe_op op_mul (pe_ix ix_2 (pv 0) pe_int (fun _ _ => rfl)) pe_int)) pa_nil)) pe_int)) (pss_one (ps_ret (pe_op op_mod (pe_op op_fdiv (pv 5) pe_int) (pv 1))))))))))), ?_⟩)
  · obtain ⟨p, q, m, rfl, _⟩ := h
    rfl
  · obtain ⟨p, q, m, rfl, ⟨j, cs, hp, hq, hne, hlen, hpos, npq⟩, hm, hm2, k⟩ := h
    rw [st__law_take]
    have hp0 : 0 < (cs.map V.int).length := by rw [List.length_map]; exact List.length_pos_iff.mpr hne
    have hL : (0 : Int) < ((cs.map V.int).length : Nat) := by omega
    obtain ⟨i, hi, ei⟩ : ∃ i : Nat, i < (cs.map V.int).length ∧ ((i : Nat) : Int) = j % (((cs.map V.int).length : Nat) : Int) := by
      have h1 := Int.emod_nonneg j (b := (((cs.map V.int).length : Nat) : Int)) (by omega)
      have h2 := Int.emod_lt_of_pos j hL
      exact ⟨(j % (((cs.map V.int).length : Nat) : Int)).toNat, by omega, by omega⟩
    have hi' : i < cs.length := by rw [List.length_map] at hi; exact hi
    obtain ⟨c, hc⟩ : ∃ c, cs[i]? = some c := ⟨_, List.getElem?_eq_getElem hi'⟩
    have hc0 : 0 ≤ c := hpos c (List.mem_of_getElem? hc)
    have hat : atI (cs.map V.int) (j % (((cs.map V.int).length : Nat) : Int)) = some (.int c) := by
      rw [← ei]
      exact atI_nat (by rw [List.getElem?_map, hc]; rfl)
    have hix : ixN (cs.map V.int).length (j % (((cs.map V.int).length : Nat) : Int)) = some i := by
      rw [← ei]
      unfold ixN
      rw [if_pos (Int.natCast_nonneg _), if_pos (by omega), Int.toNat_natCast]
    have hdm : CDiv c m := ⟨hm, by omega⟩
    have hd7 : CDiv c 7 := ⟨by decide, by decide⟩
    walk_at "w"
    by_cases hbig : (1000000000000000000 : Int) ≤ c
    · refine ite_t (decide_eq_true hbig) ?_
      walk_at "w"
      refine w_setL hq hix ?_
      walk_at "w"
      refine k _ _ ⟨j, cs.set i (c / m), get_ne hp npq, by rw [upd_same, List.map_set], fun e => ?_, by rw [List.length_set]; exact hlen, fun x hx => ?_, npq⟩ (fun b o _ n e => get_ne e n) (Int.emod_nonneg _ (by omega)) (Int.emod_lt_of_pos _ hm)
      · have := congrArg List.length e
        rw [List.length_set, List.length_nil] at this
        omega
      · rcases List.mem_or_eq_of_mem_set hx with hx | rfl
        · exact hpos x hx
        · exact Int.ediv_nonneg hc0 (by omega)
    · refine ite_f (decide_eq_false hbig) ?_
      walk_at "w"
      refine w_setL hp rfl ?_
      have hp1 : upd H p (HO.lst ([V.int j, V.ref q].set (Int.toNat 0) (V.int (j + 1)))) p = some (.lst [.int (j + 1), .ref q]) := upd_same
      have hq1 := get_ne (o := HO.lst ([V.int j, V.ref q].set (Int.toNat 0) (V.int (j + 1)))) hq npq.symm
      have kq1 : Kq H (upd H p (HO.lst ([V.int j, V.ref q].set (Int.toNat 0) (V.int (j + 1))))) p q := fun b o n _ e => get_ne e n
      generalize hH1 : upd H p (HO.lst ([V.int j, V.ref q].set (Int.toNat 0) (V.int (j + 1)))) = H1 at hp1 hq1 kq1 ⊢
      walk_at "w"
      exact k _ _ ⟨j + 1, cs, hp1, hq1, hne, hlen, hpos, npq⟩ kq1 (Int.emod_nonneg _ (by omega)) (Int.emod_lt_of_pos _ hm)

end
set_option maxRecDepth 100000
set_option maxHeartbeats 400000
section
variable {P : Program} {w : World} {K : PySem.W.Frag} {mg : Str → Option Value} {base : Heap}

abbrev nm__law_cut : List Str := ["_law_number"]
theorem sc__law_cut : FnScope nm__law_cut ["_law_number"] (defScope s__law_cut) := ⟨rfl, rfl, rfl, by decide +kernel, rfl, by decide +kernel, by decide +kernel⟩
theorem st__law_cut {a0 : V} : L2.start nm__law_cut [a0] = [some a0] := rfl

def sp_cut : Sp := fun vs H Q _ => ∃ n : Int, vs = [.int n] ∧ Q (.int (cut n)) H
theorem ok_cut (T : Txt w K mg) : C8.Cal P w K mg base 1 "_law_cut" sp_cut [] := by
  refine calD (k := 0) T.f__law_cut T.g__law_cut sc__law_cut (fun _ _ _ _ _ _ us hl => match us, hl with | [_], _ => rfl) (fun vs H Q Ex h => ?_) (fun cdv A outer s H vs Q Ex hr h => ⟨_, (pss_one (ps_ret (pe_op op_sub (pe_op op_mod (pe_callTy call_int (by rfl) T.z_int (by decide +kernel) (pa_cons (pe_op op_plus (pv 0) pe_int) pa_nil)) pe_int) pe_int))), ?_⟩)
  · obtain ⟨n, rfl, _⟩ := h
    rfl
  · obtain ⟨n, rfl, k⟩ := h
    rw [st__law_cut]
    walk_at "w"
    exact k

theorem w_genT {t : TS} {D : Ends} {σ : L2.St} {H : Hp} (F : Hp → Prop) (f : F H) (k : ∀ H1, F H1 → t D σ H1) : t D σ H := k H f
abbrev nm__law_state_clauses : List Str := ["_law_shown", "_law_put", "_law_get"]
theorem sc__law_state_clauses : FnScope nm__law_state_clauses ["_law_shown"] (defScope s__law_state_clauses) := ⟨rfl, rfl, rfl, by decide +kernel, rfl, by decide +kernel, by decide +kernel⟩
theorem st__law_state_clauses {a0 : V} : L2.start nm__law_state_clauses [a0] = [some a0, none, none] := rfl

def sp_clauses (K : PySem.W.Frag) : Sp := fun vs H Q _ => ∃ sh : Bool, vs = [.bl sh] ∧ ∀ H' u, Same H H' → Rep K H' (lawH sh).cls u → Q u H'
theorem ok_clauses (T : Txt w K mg) : C8.Cal P w K mg base 1 "_law_state_clauses" (sp_clauses K) [] := by
  refine calD (k := 0) T.f__law_state_clauses T.g__law_state_clauses sc__law_state_clauses (fun _ _ _ _ _ _ us hl => match us, hl with | [_], _ => rfl) (fun vs H Q Ex h => ?_) (fun cdv A outer s H vs Q Ex hr h => ⟨_, (pss_cons (ps_set (i := 1) sc__law_state_clauses.nd rfl (by first | exact Or.inl rfl | exact Or.inr rfl) (pe_tup (pa_cons pe_str (pa_cons pe_str (pa_cons (pe_tup (pa_cons pe_str (pa_cons (pe_tup (pa_cons pe_str (pa_cons (pe_tup (pa_cons pe_str (pa_cons pe_str pa_nil))) (pa_cons (pe_tup (pa_cons pe_str pa_nil)) pa_nil)))) (pa_cons (pe_tup (pa_cons pe_str (pa_cons pe_str pa_nil))) pa_nil)))) pa_nil))))) (pss_cons (ps_if (pt_tru (pv 0)) (pss_one (ps_set (i := 1) sc__law_state_clauses.nd rfl (by first | exact Or.inl rfl | exact Or.inr rfl) (pe_tup (pa_cons pe_str (pa_cons pe_str (pa_cons (pe_tup (pa_cons pe_str (pa_cons (pe_tup (pa_cons pe_str (pa_cons pe_str pa_nil))) (pa_cons (pe_tup (pa_cons pe_str (pa_cons (pe_tup (pa_cons pe_str (pa_cons (pe_tup (pa_cons pe_str (pa_cons pe_str pa_nil))) (pa_cons (pe_tup (pa_cons pe_str pa_nil)) pa_nil)))) (pa_cons (pe_tup (pa_cons pe_str (pa_cons pe_str pa_nil))) pa_nil)))) pa_nil)))) pa_nil)))))) pss_nil) (pss_cons (ps_set (i := 2) sc__law_state_clauses.nd rfl (by first | exact Or.inl rfl | exact Or.inr rfl) (pe_tup (pa_cons pe_str (pa_cons pe_str (pa_cons (pe_tup (pa_cons pe_str (pa_cons (pe_tup (pa_cons pe_str (pa_cons (pe_tup (pa_cons pe_str (pa_cons pe_str pa_nil))) (pa_cons (pe_tup (pa_cons pe_str (pa_cons pe_str pa_nil))) pa_nil)))) (pa_cons (pe_tup (pa_cons pe_str (pa_cons pe_str pa_nil))) pa_nil)))) pa_nil))))) (pss_one (ps_ret (pe_tup (pa_cons (pe_tup (pa_cons pe_str (pa_cons pe_str (pa_cons pe_str (pa_cons (pv 2) pa_nil))))) (pa_cons (pe_tup (pa_cons pe_str (pa_cons pe_str (pa_cons pe_str (pa_cons (pv 1) pa_nil))))) pa_nil)))))))), ?_⟩)
  · obtain ⟨sh, rfl, _⟩ := h
    rfl
  · obtain ⟨sh, rfl, k⟩ := h
    rw [st__law_state_clauses]
    walk_at "w"
    rename_i p6 h6
    cases sh
    · refine ite_f rfl ?_
      refine w_genT (F := fun HH => Same H HH ∧ Rep K HH (pE false).d (.ref p6)) ⟨by walk_at "sm", by walk_at "rp"⟩ ?_
      rintro H1 ⟨s1, r1⟩
      walk_at "w"
      exact k _ _ (s1.trans (by walk_at "sm")) (by walk_at "rp")
    · refine ite_t rfl ?_
      refine w_genT (F := fun HH => Same H HH) (by walk_at "sm") ?_
      rintro H1 s1
      walk_at "w"
      exact k _ _ (s1.trans (by walk_at "sm")) (by walk_at "rp")

theorem cut63 (ns : List Int) : ∃ zs : List Int, cutV (ns.map V.int) none (some 63) = zs.map V.int ∧ zs.length ≤ 63 := by
  refine ⟨ns.take (min 63 ns.length), ?_, by rw [List.length_take]; omega⟩
  unfold cutV
  show List.take (HT.sIx (ns.map V.int).length (ns.map V.int).length (some ((63 : Nat) : Int)) - 0) (List.drop 0 (ns.map V.int)) = _
  rw [HT.sIx_nat, Nat.sub_zero, List.drop_zero, List.length_map, List.map_take]
abbrev nm__law_state : List Str := ["_law_script", "_law_cells", "_law_cell"]
theorem sc__law_state : FnScope nm__law_state ["_law_script"] (defScope s__law_state) := ⟨rfl, rfl, rfl, by decide +kernel, rfl, by decide +kernel, by decide +kernel⟩
theorem st__law_state {a0 : V} : L2.start nm__law_state [a0] = [some a0, none, none] := rfl

def sp_state (K : PySem.W.Frag) : Sp := fun vs H Q _ => ∃ (a : Addr) (ns : List Int), vs = [.ref a] ∧ SqL K H a (ns.map V.int) ∧ ∀ H' p q, Same H H' → StAt H' p q → H p = none → H q = none → Q (.ref p) H'
theorem ok_state (T : Txt w K mg) : C8.Cal P w K mg base 1 "_law_state" (sp_state K) [] := by
  refine calD (k := 0) T.f__law_state T.g__law_state sc__law_state (fun _ _ _ _ _ _ us hl => match us, hl with | [_], _ => rfl) (fun vs H Q Ex h => ?_) (fun cdv A outer s H vs Q Ex hr h => ⟨_, (pss_cons (ps_setLc (i := 1) (own := [("_law_cell", 2)]) (tt := tYes) rfl sc__law_state.nd rfl rfl (sw_true rfl rfl rfl (by decide +kernel)) (pi_list (pe_slice sl_2 (pv 0) po_none (po_some pe_int))) (blkOk_by (own := [("_law_cell", 2)]) (N := nm__law_state) (sc := defScope s__law_state) (by decide +kernel)) (fun _ _ _ _ _ => (pg_name (i := 2) sc__law_state.nd rfl (by first | exact Or.inl rfl | exact Or.inr rfl))) (fun _ _ _ _ _ => pts_nil) (fun _ _ _ _ _ => (pe_callB call_abs1 (by rfl) T.z_abs (by decide +kernel) (pa_cons (pv 2) pa_nil)))) (pss_cons (ps_if (pt_cmpR op_eq (pe_callB call_len2 (by rfl) T.z_len PySem.boot_len (pa_cons (pv 1) pa_nil)) pe_int (by rfl)) (pss_one (ps_set (i := 1) sc__law_state.nd rfl (by first | exact Or.inl rfl | exact Or.inr rfl) (pe_lst (pa_cons pe_int pa_nil)))) pss_nil) (pss_one (ps_ret (pe_lst (pa_cons pe_int (pa_cons (pv 1) pa_nil))))))), ?_⟩)
  · obtain ⟨a, ns, rfl, _⟩ := h
    rfl
  · obtain ⟨a, ns, rfl, hs, k⟩ := h
    rw [st__law_state]
    walk_at "w"
    rename_i q0 hq0
    obtain ⟨zs, ez, hz⟩ := cut63 ns
    rw [ez]
    have s0 : Same H (upd H q0 (.lst (zs.map V.int))) := Same.new (Same.refl _) hq0
    have hq1 : upd H q0 (.lst (zs.map V.int)) q0 = some (.lst (zs.map V.int)) := upd_same
    generalize hH1 : upd H q0 (.lst (zs.map V.int)) = H1 at s0 hq1 ⊢
    clear hH1
    refine ⟨q0, rfl, ⟨_, sql_of hq1⟩, fun Dl hD => ?_⟩
    have sql1 : SqL K H1 q0 (zs.map V.int) := sql_of hq1
    refine lc_list (xs := zs.map V.int) (fun i H' => Same H1 H' ∧ H' Dl = some (.lst ((zs.take i).map fun z => V.int (if z < 0 then -z else z)))) ⟨Same.new (Same.refl _) hD, by rw [List.take_zero]; exact upd_same⟩ (fun i H' _ p => p.1.seq sql1) (fun i x H' hi p => ?_) (fun H' p => ?_)
    · obtain ⟨s1, hD1⟩ := p
      rw [List.getElem?_map] at hi
      obtain ⟨z, hz1, rfl⟩ := Option.map_eq_some_iff.mp hi
      have hzi := (List.getElem?_eq_some_iff.mp hz1).1
      refine ⟨wipe1, ?_⟩
      unfold tYes
      simp only [↓reduceIte]
      walk_at "w"
      refine ⟨_, hD1, Nat.lt_of_le_of_lt (m := 63) (by rw [List.length_map, List.length_take]; omega) (by decide), Same.mut s1 hD, ?_⟩
      rw [upd_same, List.take_add_one, hz1]
      simp only [Option.toList_some, List.map_append, List.map_cons, List.map_nil]
    · obtain ⟨s1, hD1⟩ := p
      rw [List.length_map, List.take_length] at hD1
      have fD : H Dl = none := s0.free hD
      have s2 : Same H H' := s0.trans s1
      walk_at "w"
      cases zs with
      | nil =>
        refine ite_t rfl ?_
        walk_at "w"
        rename_i q2 hq2 p2 hp2
        refine k _ p2 q2 (s2.trans (by walk_at "sm")) ⟨0, [0], upd_same, get_new upd_same hp2, List.cons_ne_nil _ _, by decide, fun c hc => by rw [List.mem_singleton.mp hc]; decide, (ne_of_none upd_same hp2).symm⟩ (s2.free (free_new hp2)) (s2.free hq2)
      | cons z zs =>
        refine ite_f (decide_eq_false fun e => by have := V.int.inj e; rw [List.length_map, List.length_cons] at this; omega) ?_
        walk_at "w"
        rename_i p2 hp2
        refine k _ p2 Dl (s2.trans (by walk_at "sm")) ⟨0, (z :: zs).map (fun z => if z < 0 then -z else z), upd_same, by rw [List.map_map]; exact get_new hD1 hp2, List.cons_ne_nil _ _, by rw [List.length_map]; exact hz, fun c hc => ?_, (ne_of_none hD1 hp2).symm⟩ (s2.free hp2) fD
        obtain ⟨y, _, rfl⟩ := List.mem_map.mp hc
        split <;> omega

end
set_option maxRecDepth 100000
set_option maxHeartbeats 400000
section
variable {P : Program} {w : World} {K : PySem.W.Frag} {mg : Str → Option Value} {base : Heap}

abbrev nm__law_deed : List Str := ["_law_state_here", "_law_cell", "_law_prints", "_law_shown", "_law_kind", "_law_number", "_law_got", "_law_least", "_law_other", "_law_rounds", "_law_k", "_law_again", "_law_body"]
theorem sc__law_deed : FnScope nm__law_deed ["_law_state_here", "_law_cell", "_law_prints", "_law_shown"] (defScope s__law_deed) := ⟨rfl, rfl, rfl, by decide +kernel, rfl, by decide +kernel, by decide +kernel⟩
theorem st__law_deed {a0 a1 a2 a3 : V} : L2.start nm__law_deed [a0, a1, a2, a3] = [some a0, some a1, some a2, some a3, none, none, none, none, none, none, none, none, none] := rfl

local macro_rules | `(tactic| walk_at "w1") => `(tactic| ((with_reducible refine' w_I ?h ?_); (case h => first | exact cmul_c (by decide) (by decide) | exact cdiv_c (by decide) (by decide))))
def K4 (H H' : Hp) (p q cl lp : Addr) : Prop := ∀ b o, b ≠ p → b ≠ q → b ≠ cl → b ≠ lp → H b = some o → H' b = some o
def sp_deed (K : PySem.W.Frag) : Sp := fun vs H Q _ => ∃ (p q cl lp : Addr) (sh : Bool) (c : Int) (ps : List Int), vs = [.ref p, .ref cl, .ref lp, .bl sh] ∧ StAt H p q ∧ H cl = some (.lst [.int c]) ∧ H lp = some (.lst (ps.map V.int)) ∧ ps.length ≤ 900 ∧ (cl ≠ p ∧ cl ≠ q ∧ lp ≠ p ∧ lp ≠ q ∧ cl ≠ lp) ∧
  ∀ H' (d : Deed) u, d.ok → StAt H' p q → H' cl = some (.lst [.int (d.run sh c ps).1]) → H' lp = some (.lst ((d.run sh c ps).2.map V.int)) → K4 H H' p q cl lp → Rep K H' d.e.d u → Q u H'
/-- the deed's heap: the state, the cell, the prints; what else stood in H0 stands -/
structure DSt (H0 H : Hp) (p q cl lp : Addr) (c : Int) (ps : List Int) : Prop where
  st : StAt H p q
  hc : H cl = some (.lst [.int c])
  hp : H lp = some (.lst (ps.map V.int))
  kp : K4 H0 H p q cl lp
  n1 : cl ≠ p
  n2 : cl ≠ q
  n3 : lp ≠ p
  n4 : lp ≠ q
  n5 : cl ≠ lp
theorem StAt.keep {H H' : Hp} {p q : Addr} (h : StAt H p q) (kp : ∀ b o, (b = p ∨ b = q) → H b = some o → H' b = some o) : StAt H' p q := by
  obtain ⟨j, cs, a, b, c⟩ := h
  exact ⟨j, cs, kp _ _ (.inl rfl) a, kp _ _ (.inr rfl) b, c⟩
section
variable {H0 H H' : Hp} {p q cl lp : Addr} {c : Int} {ps : List Int}
theorem DSt.same (d : DSt H0 H p q cl lp c ps) (s : Same H H') : DSt H0 H' p q cl lp c ps := ⟨d.st.keep fun _ _ _ e => s _ _ e, s _ _ d.hc, s _ _ d.hp, fun b o a1 a2 a3 a4 e => s _ _ (d.kp b o a1 a2 a3 a4 e), d.n1, d.n2, d.n3, d.n4, d.n5⟩
theorem DSt.setc (d : DSt H0 H p q cl lp c ps) {c' : Int} : DSt H0 (upd H cl (.lst ([V.int c].set 0 (V.int c')))) p q cl lp c' ps :=
  ⟨d.st.keep fun b o h e => get_ne e (by rcases h with rfl | rfl; exact d.n1.symm; exact d.n2.symm), upd_same, get_ne d.hp d.n5.symm, fun b o a1 a2 a3 a4 e => get_ne (d.kp b o a1 a2 a3 a4 e) a3, d.n1, d.n2, d.n3, d.n4, d.n5⟩
theorem DSt.setp (d : DSt H0 H p q cl lp c ps) {ps' : List Int} : DSt H0 (upd H lp (.lst (ps'.map V.int))) p q cl lp c ps' :=
  ⟨d.st.keep fun b o h e => get_ne e (by rcases h with rfl | rfl; exact d.n3.symm; exact d.n4.symm), get_ne d.hc d.n5, upd_same, fun b o a1 a2 a3 a4 e => get_ne (d.kp b o a1 a2 a3 a4 e) a4, d.n1, d.n2, d.n3, d.n4, d.n5⟩
theorem DSt.lec (d : DSt H0 H p q cl lp c ps) {c' : Int} (K : PySem.W.Frag) : Le K H (upd H cl (.lst ([V.int c].set 0 (V.int c')))) := Le.lst Le.refl d.hc
theorem DSt.lep (d : DSt H0 H p q cl lp c ps) {ps' : List V} (K : PySem.W.Frag) : Le K H (upd H lp (.lst ps')) := Le.lst Le.refl d.hp
theorem StAt.le (h : StAt H p q) (kq : Kq H H' p q) (K : PySem.W.Frag) : Le K H H' := by
  obtain ⟨j, cs, a, b, _⟩ := h
  exact Le.of fun x u e z => kq x u (ne_of e a fun e => by rcases z with ⟨_, rfl⟩ | ⟨_, _, rfl⟩ <;> cases e) (ne_of e b fun e => by rcases z with ⟨_, rfl⟩ | ⟨_, _, rfl⟩ <;> cases e) e
theorem DSt.out {K : PySem.W.Frag} {Q : VK} {sh : Bool} {u : V} {d : Deed} {c' : Int} {ps' : List Int} (D : DSt H0 H p q cl lp c' ps')
    (k : ∀ H' (d : Deed) u, d.ok → StAt H' p q → H' cl = some (.lst [.int (d.run sh c ps).1]) → H' lp = some (.lst ((d.run sh c ps).2.map V.int)) → K4 H0 H' p q cl lp → Rep K H' d.e.d u → Q u H')
    (ok : d.ok) (e1 : c' = (d.run sh c ps).1) (e2 : ps' = (d.run sh c ps).2) (r : Rep K H d.e.d u) : Q u H := k H d u ok D.st (e1 ▸ D.hc) (e2 ▸ D.hp) D.kp r
end
theorem ok_deed (T : Txt w K mg) (c__law_take : C8.Cal P w K mg base 1 "_law_take" sp_take []) (c__law_cut : C8.Cal P w K mg base 1 "_law_cut" sp_cut []) : C8.Cal P w K mg base 2 "_law_deed" (sp_deed K) [] := by
  refine calD (k := 1) T.f__law_deed T.g__law_deed sc__law_deed (fun _ _ _ _ _ _ us hl => match us, hl with | [_, _, _, _], _ => rfl) (fun vs H Q Ex h => ?_) (fun cdv A outer s H vs Q Ex hr h => ⟨_, (pss_cons (ps_set (i := 4) sc__law_deed.nd rfl (by first | exact Or.inl rfl | exact Or.inr rfl) (C8.pe_c c__law_take hr (by omega) (by rfl) (pa_cons (pv 0) (pa_cons pe_int pa_nil)))) (pss_cons (ps_set (i := 5) sc__law_deed.nd rfl (by first | exact Or.inl rfl | exact Or.inr rfl) (C8.pe_c c__law_take hr (by omega) (by rfl) (pa_cons (pv 0) (pa_cons pe_int pa_nil)))) (pss_cons (ps_set (i := 6) sc__law_deed.nd rfl (by first | exact Or.inl rfl | exact Or.inr rfl) (pe_tup (pa_cons pe_str (pa_cons pe_str (pa_cons (pe_tup (pa_cons pe_str pa_nil)) pa_nil))))) (pss_cons (ps_if (pt_cmpR op_eq (pv 4) pe_int (by rfl)) (pss_cons (ps_asg (C8.pe_c c__law_cut hr (by omega) (by rfl) (pa_cons (pe_op op_plus (pe_op op_mul (pe_ix ix_2 (pv 1) pe_int (fun _ _ => rfl)) pe_int) (pv 5)) pa_nil)) (pg_sub (pv 1) pe_int set_list)) (pss_cons (ps_if (pt_tru (pv 3)) (pss_one (ps_expr (pe_bm PySem.F.plainAttrs_list PySem.F.slot_list_append PySem.F.type_list_append mt_append (pv 2) (pa_cons (pe_ix ix_2 (pv 1) pe_int (fun _ _ => rfl)) pa_nil)))) pss_nil) (pss_one (ps_ret (pe_tup (pa_cons pe_str (pa_cons pe_str (pa_cons (pe_tup (pa_cons pe_str (pa_cons pe_str (pa_cons (pe_tup (pa_cons pe_str (pa_cons pe_str (pa_cons (pv 6) (pa_cons (pe_tup (pa_cons pe_str (pa_cons pe_int pa_nil))) pa_nil))))) (pa_cons (pe_tup (pa_cons pe_str (pa_cons (pv 5) pa_nil))) pa_nil))))) pa_nil)))))))) pss_nil) (pss_cons (ps_if (pt_cmpR op_eq (pv 4) pe_int (by rfl)) (pss_cons (ps_expr (pe_bm PySem.F.plainAttrs_list PySem.F.slot_list_append PySem.F.type_list_append mt_append (pv 2) (pa_cons (pe_ix ix_2 (pv 1) pe_int (fun _ _ => rfl)) pa_nil))) (pss_one (ps_ret (pe_tup (pa_cons pe_str (pa_cons (pv 6) (pa_cons (pe_tup (pa_cons pe_str pa_nil)) pa_nil))))))) pss_nil) (pss_cons (ps_if (pt_cmpR op_eq (pv 4) pe_int (by rfl)) (pss_cons (ps_set (i := 7) sc__law_deed.nd rfl (by first | exact Or.inl rfl | exact Or.inr rfl) (pe_cmpR op_lt (pe_ix ix_2 (pv 1) pe_int (fun _ _ => rfl)) (pv 5) (by rfl))) (pss_cons (ps_asg (pe_ix ix_2 (pe_lst (pa_cons (pv 5) (pa_cons (pe_ix ix_2 (pv 1) pe_int (fun _ _ => rfl)) pa_nil))) (pe_callTy call_int (by rfl) T.z_int (by decide +kernel) (pa_cons (pv 7) pa_nil)) (fun _ _ => rfl)) (pg_sub (pv 1) pe_int set_list)) (pss_cons (ps_set (i := 8) sc__law_deed.nd rfl (by first | exact Or.inl rfl | exact Or.inr rfl) (pe_tup (pa_cons pe_str (pa_cons pe_str (pa_cons (pe_tup (pa_cons pe_str (pa_cons (pv 5) pa_nil))) pa_nil))))) (pss_cons (ps_if ((pw_and (pt_not (pt_tru (pv 7))) (pw_and1 (pt_tru (pv 3))))).pt (pss_one (ps_expr (pe_bm PySem.F.plainAttrs_list PySem.F.slot_list_append PySem.F.type_list_append mt_append (pv 2) (pa_cons (pv 5) pa_nil)))) pss_nil) (pss_one (ps_ret (pe_tup (pa_cons pe_str (pa_cons (pe_tup (pa_cons pe_str (pa_cons pe_str (pa_cons (pv 6) (pa_cons (pe_tup (pa_cons pe_str (pa_cons (pv 5) pa_nil))) pa_nil))))) (pa_cons (pe_tup (pa_cons pe_str pa_nil)) (pa_cons (pv 8) pa_nil))))))))))) pss_nil) (pss_cons (ps_set (i := 9) sc__law_deed.nd rfl (by first | exact Or.inl rfl | exact Or.inr rfl) (C8.pe_c c__law_take hr (by omega) (by rfl) (pa_cons (pv 0) (pa_cons pe_int pa_nil)))) (pss_cons (ps_for PassesOwn.never rfl (pi_range1 (by rfl) T.z_range (pa_cons (pv 9) pa_nil)) (pg_name (i := 10) sc__law_deed.nd rfl (by first | exact Or.inl rfl | exact Or.inr rfl)) (pss_cons (ps_asg (C8.pe_c c__law_cut hr (by omega) (by rfl) (pa_cons (pe_op op_plus (pe_ix ix_2 (pv 1) pe_int (fun _ _ => rfl)) (pv 5)) pa_nil)) (pg_sub (pv 1) pe_int set_list)) (pss_one (ps_if (pt_tru (pv 3)) (pss_one (ps_expr (pe_bm PySem.F.plainAttrs_list PySem.F.slot_list_append PySem.F.type_list_append mt_append (pv 2) (pa_cons (pe_ix ix_2 (pv 1) pe_int (fun _ _ => rfl)) pa_nil)))) pss_nil)))) (pss_cons (ps_set (i := 11) sc__law_deed.nd rfl (by first | exact Or.inl rfl | exact Or.inr rfl) (pe_tup (pa_cons pe_str (pa_cons pe_str (pa_cons (pe_tup (pa_cons pe_str (pa_cons pe_str (pa_cons (pe_tup (pa_cons pe_str (pa_cons pe_str (pa_cons (pv 6) (pa_cons (pe_tup (pa_cons pe_str (pa_cons (pv 5) pa_nil))) pa_nil))))) pa_nil)))) (pa_cons (pe_tup (pa_cons pe_str (pa_cons (pe_tup (pa_cons pe_str (pa_cons pe_str pa_nil))) (pa_cons (pe_tup (pa_cons pe_str (pa_cons pe_str (pa_cons (pe_tup (pa_cons pe_str (pa_cons pe_str pa_nil))) (pa_cons (pe_tup (pa_cons pe_str (pa_cons pe_int pa_nil))) pa_nil))))) pa_nil)))) pa_nil)))))) (pss_cons (ps_set (i := 12) sc__law_deed.nd rfl (by first | exact Or.inl rfl | exact Or.inr rfl) (pe_tup (pa_cons pe_str (pa_cons (pe_tup (pa_cons pe_str (pa_cons pe_str (pa_cons (pe_tup (pa_cons pe_str (pa_cons pe_str pa_nil))) (pa_cons (pe_tup (pa_cons pe_str (pa_cons pe_int pa_nil))) pa_nil))))) (pa_cons (pe_tup (pa_cons pe_str pa_nil)) (pa_cons (pv 11) pa_nil)))))) (pss_one (ps_ret (pe_tup (pa_cons pe_str (pa_cons (pe_tup (pa_cons pe_str (pa_cons pe_str (pa_cons pe_str (pa_cons (pv 12) pa_nil))))) (pa_cons (pe_tup (pa_cons pe_str (pa_cons (pv 9) pa_nil))) pa_nil)))))))))))))))), ?_⟩)
  · obtain ⟨p, q, cl, lp, sh, c, ps, rfl, _⟩ := h
    rfl
  · obtain ⟨p, q, cl, lp, sh, c, ps, rfl, st, hc, hp, hz, ⟨n1, n2, n3, n4, n5⟩, k⟩ := h
    rw [st__law_deed]
    walk_at "w"
    refine ⟨p, q, 5, rfl, st, by decide, by decide, fun H1 kd st1 kq1 k0 k5 => ?_⟩
    walk_at "w"
    refine ⟨p, q, 100000, rfl, st1, by decide, by decide, fun H2 n st2 kq2 m0 m1 => ?_⟩
    have hc2 := kq2 _ _ n1 n2 (kq1 _ _ n1 n2 hc)
    have hp2 := kq2 _ _ n3 n4 (kq1 _ _ n3 n4 hp)
    have k2 : K4 H H2 p q cl lp := fun b o a1 a2 _ _ e => kq2 _ _ a1 a2 (kq1 _ _ a1 a2 e)
    clear kq1 kq2 st st1 hc hp
    have d2 : DSt H H2 p q cl lp c ps := ⟨st2, hc2, hp2, k2, n1, n2, n3, n4, n5⟩
    walk_at "w"
    rename_i gu g1 g g2
    by_cases e0 : kd = 0
    · refine ite_t (decide_eq_true (congrArg V.int e0)) ?_
      refine w_genT (F := fun HH => DSt H HH p q cl lp c ps ∧ Rep K HH getE.d (.ref g)) ⟨d2.same (by walk_at "sm"), by walk_at "rp"⟩ ?_
      rintro H3 ⟨d3, rg⟩
      have hc3 := d3.hc
      have hp3 := d3.hp
      clear g1 g2
      walk_at "w"
      refine ⟨_, rfl, ?_⟩
      walk_at "w"
      refine w_setL (j := 0) d3.hc rfl ?_
      have d4 := d3.setc (c' := cut (c * 7 + n))
      have rg' := rg.mono (d3.lec (c' := cut (c * 7 + n)) K)
      generalize hG : upd H3 cl (HO.lst ([V.int c].set 0 (V.int (cut (c * 7 + n))))) = H4 at d4 rg' ⊢
      clear hG
      have hc4 := d4.hc
      have hp4 := d4.hp
      have hzl : (ps.map V.int).length ≤ 100000 := by rw [List.length_map]; omega
      walk_at "w"
      cases sh
      · refine ite_f rfl ?_
        walk_at "w"
        exact (d4.same (by walk_at "sm")).out (d := .put7 n) k ⟨m0, m1⟩ (cut_cut _ _).symm (by show ps = ps; rfl) (by walk_at "rp")
      · refine ite_t rfl ?_
        walk_at "w"
        have d5 := d4.setp (ps' := ps ++ [cut (c * 7 + n)])
        rw [List.map_append] at d5
        exact (d5.same (by walk_at "sm")).out (d := .put7 n) k ⟨m0, m1⟩ (cut_cut _ _).symm (by show ps ++ [cut (c * 7 + n)] = ps ++ [cut (cut (c * 7) + n)]; rw [cut_cut]) (by walk_at "rp")
    refine ite_f (decide_eq_false fun e => e0 (V.int.inj e)) ?_
    refine w_genT (F := fun HH => DSt H HH p q cl lp c ps ∧ Rep K HH getE.d (.ref g)) ⟨d2.same (by walk_at "sm"), by walk_at "rp"⟩ ?_
    rintro H3 ⟨d3, rg⟩
    have hc3 := d3.hc
    have hp3 := d3.hp
    clear g1 g2
    walk_at "w"
    by_cases e1 : kd = 1
    · refine ite_t (decide_eq_true (congrArg V.int e1)) ?_
      have hzl : (ps.map V.int).length ≤ 100000 := by rw [List.length_map]; omega
      walk_at "w"
      have d5 := d3.setp (ps' := ps ++ [c])
      rw [List.map_append] at d5
      exact (d5.same (by walk_at "sm")).out (d := .shw) k trivial rfl rfl (by walk_at "rp")
    refine ite_f (decide_eq_false fun e => e1 (V.int.inj e)) ?_
    walk_at "w"
    by_cases e2 : kd = 2
    · refine ite_t (decide_eq_true (congrArg V.int e2)) ?_
      walk_at "w"
      rename_i pl hpl
      have d4 := d3.same (Same.new (o := HO.lst [V.int n, V.int c]) (Same.refl _) hpl)
      have rg4 := rg.mono (Le.new (o := HO.lst [V.int n, V.int c]) Le.refl hpl)
      have hpl4 : upd H3 pl (HO.lst [V.int n, V.int c]) pl = some (.lst [V.int n, V.int c]) := upd_same
      have hc4' := d4.hc
      generalize hG4 : upd H3 pl (HO.lst [V.int n, V.int c]) = H4 at d4 rg4 hpl4 hc4' ⊢
      clear hG4
      by_cases hcn : c < n
      · rw [decide_eq_true hcn]
        walk_at "w"
        refine w_setL (j := 0) d4.hc rfl ?_
        have d5 := d4.setc (c' := c)
        have rg4' := rg4.mono (d4.lec (c' := c) K)
        generalize hG : upd H4 cl (HO.lst ([V.int c].set 0 (V.int (c)))) = H5 at d5 rg4' ⊢
        clear hG
        have hc4 := d5.hc
        have hp4 := d5.hp
        have hzl : (ps.map V.int).length ≤ 100000 := by rw [List.length_map]; omega
        walk_at "w"
        exact (d5.same (by walk_at "sm")).out (d := .choose n) k ⟨m0, m1⟩ (by show c = (if c < n then (c, ps) else (n, pr sh ps n)).1; rw [if_pos hcn]) (by show ps = (if c < n then (c, ps) else (n, pr sh ps n)).2; rw [if_pos hcn]) (by walk_at "rp")
      · rw [decide_eq_false hcn]
        walk_at "w"
        refine w_setL (j := 0) d4.hc rfl ?_
        have d5 := d4.setc (c' := n)
        have rg4' := rg4.mono (d4.lec (c' := n) K)
        generalize hG : upd H4 cl (HO.lst ([V.int c].set 0 (V.int (n)))) = H5 at d5 rg4' ⊢
        clear hG
        have hc4 := d5.hc
        have hp4 := d5.hp
        have hzl : (ps.map V.int).length ≤ 100000 := by rw [List.length_map]; omega
        walk_at "w"
        rename_i pt hpt po hpo
        cases sh
        · refine ite_f rfl ?_
          walk_at "w"
          exact (d5.same (by walk_at "sm")).out (d := .choose n) k ⟨m0, m1⟩ (by show n = (if c < n then (c, ps) else (n, pr false ps n)).1; rw [if_neg hcn]) (by show ps = (if c < n then (c, ps) else (n, pr false ps n)).2; rw [if_neg hcn]; rfl) (by walk_at "rp")
        · refine ite_t rfl ?_
          refine w_genT (F := fun HH => DSt H HH p q cl lp n ps ∧ Rep K HH getE.d (.ref g) ∧ Rep K HH (E.ask .put (.num n)).d (.ref po)) ⟨d5.same (by walk_at "sm"), by walk_at "rp", by walk_at "rp"⟩ ?_
          rintro H6 ⟨d6, rg6, rp6⟩
          have hp6 := d6.hp
          walk_at "w"
          have d7 := d6.setp (ps' := ps ++ [n])
          rw [List.map_append] at d7
          have le7 : Le K H6 (upd H6 lp (.lst (ps.map V.int ++ [V.int n]))) := d6.lep K
          have rg7 := rg6.mono le7
          have rp7 := rp6.mono le7
          exact (d7.same (by walk_at "sm")).out (d := .choose n) k ⟨m0, m1⟩ (by show n = (if c < n then (c, ps) else (n, pr true ps n)).1; rw [if_neg hcn]) (by show ps ++ [n] = (if c < n then (c, ps) else (n, pr true ps n)).2; rw [if_neg hcn]; rfl) (by walk_at "rp")
    refine ite_f (decide_eq_false fun e => e2 (V.int.inj e)) ?_
    walk_at "w"
    refine ⟨p, q, 5, rfl, d3.st, by decide, by decide, fun H4 r st4 kq4 r0 r5 => ?_⟩
    have d4 : DSt H H4 p q cl lp c ps := ⟨st4, kq4 _ _ n1 n2 d3.hc, kq4 _ _ n3 n4 d3.hp, fun b o a1 a2 a3 a4 e => kq4 _ _ a1 a2 (d3.kp b o a1 a2 a3 a4 e), n1, n2, n3, n4, n5⟩
    have rg4 := rg.mono (d3.st.le kq4 K)
    obtain ⟨r', rfl⟩ : ∃ r' : Nat, r = (r' : Int) := ⟨r.toNat, by omega⟩
    walk_at "w"
    refine ⟨_, rfl, by omega, by omega, ?_⟩
    rw [Int.toNat_natCast]
    refine for_range (fun i σ H' => (∃ v10, σ = [some (.ref p), some (.ref cl), some (.ref lp), some (.bl sh), some (.int kd), some (.int n), some (.ref g), none, none, some (.int (r' : Nat)), v10, none, none]) ∧ ∃ ci pi, DSt H H' p q cl lp ci pi ∧ rounds sh n (r' - i) ci pi = rounds sh n r' c ps ∧ pi.length ≤ ps.length + i ∧ Rep K H' getE.d (.ref g)) ⟨⟨none, rfl⟩, c, ps, d4, rfl, Nat.le_refl _, rg4⟩ ?_ ?_
    · rintro i σ H5 hi ⟨⟨v10, rfl⟩, ci, pi, d5, hr5, hl5, rg5⟩
      have hc5 := d5.hc
      have er : r' - i = (r' - (i + 1)) + 1 := by omega
      rw [er] at hr5
      walk_at "w"
      refine ⟨_, rfl, ?_⟩
      walk_at "w"
      refine w_setL (j := 0) d5.hc rfl ?_
      have d6 := d5.setc (c' := cut (ci + n))
      have rg5' := rg5.mono (d5.lec (c' := cut (ci + n)) K)
      generalize hG : upd H5 cl (HO.lst ([V.int ci].set 0 (V.int (cut (ci + n))))) = H6 at d6 rg5' ⊢
      clear hG
      have hc4 := d6.hc
      have hp4 := d6.hp
      have hzl : (pi.map V.int).length ≤ 100000 := by rw [List.length_map]; omega
      walk_at "w"
      cases sh
      · refine ite_f rfl ?_
        walk_at "w"
        exact ⟨⟨_, rfl⟩, _, _, d6, hr5, by omega, rg5'⟩
      · refine ite_t rfl ?_
        walk_at "w"
        have d7 := d6.setp (ps' := pi ++ [cut (ci + n)])
        rw [List.map_append] at d7
        exact ⟨⟨_, rfl⟩, _, _, d7, hr5, by rw [List.length_append, List.length_singleton]; omega, rg5'.mono (d6.lep K)⟩
    · rintro σ H5 ⟨⟨v10, rfl⟩, ci, pi, d5, hr5, hl5, rg5⟩
      rw [Nat.sub_self] at hr5
      have hr5 : (ci, pi) = rounds sh n r' c ps := hr5
      walk_at "w"
      exact (d5.same (by walk_at "sm")).out (d := .loop n r') k ⟨⟨m0, m1⟩, by omega⟩ (by show ci = (rounds sh n r' c ps).1; rw [← hr5]) (by show pi = (rounds sh n r' c ps).2; rw [← hr5]) (by walk_at "rp")

end
set_option maxRecDepth 100000
set_option maxHeartbeats 400000
section
variable {P : Program} {w : World} {K : PySem.W.Frag} {mg : Str → Option Value} {base : Heap}

abbrev lawOut (sh : Bool) (ds : List Deed) (i : Int) : D := outD (cut ((runs sh ds i []).1 - 1)) (runs sh ds i []).1 (runs sh ds i []).2
abbrev nm__law_roads : List Str := ["_law_tree", "_law_steps"]
theorem sc__law_roads : FnScope nm__law_roads ["_law_tree", "_law_steps"] (defScope s__law_roads) := ⟨rfl, rfl, rfl, by decide +kernel, rfl, by decide +kernel, by decide +kernel⟩
theorem st__law_roads {a0 a1 : V} : L2.start nm__law_roads [a0, a1] = [some a0, some a1] := rfl

def sp_roads (K : PySem.W.Frag) : Sp := fun vs H Q _ => ∃ (sh : Bool) (ds : List Deed) (i : Int) (ve : V), vs = [ve, .int 2000] ∧ Rep K H (topD sh ds i) ve ∧ (∀ d ∈ ds, d.ok) ∧ ds.length ≤ 13 ∧ ∀ H' l u1 u2 u3, Le K H H' → H' l = some (.lst [u1, u2, u3]) → Rep K H' (lawOut sh ds i) u1 → Rep K H' (lawOut sh ds i) u2 → Rep K H' (lawOut sh ds i) u3 → Q (.ref l) H'
theorem ok_roads (T : Txt w K mg) (c_run_plain : C8.Cal P w K mg base 47 "run_plain" (sp_run_plain K) []) (c_run_machine : C8.Cal P w K mg base 6 "run_machine" (sp_run_machine K) []) (c_run_code : C8.Cal P w K mg base 7 "run_code" (sp_run_code K) []) (c_compile_expression : C8.Cal P w K mg base 76 "compile_expression" (sp_compile K) []) : C8.Cal P w K mg base 77 "_law_roads" (sp_roads K) [] := by
  refine calD (k := 76) T.f__law_roads T.g__law_roads sc__law_roads (fun _ _ _ _ _ _ us hl => match us, hl with | [_, _], _ => rfl) (fun vs H Q Ex h => ?_) (fun cdv A outer s H vs Q Ex hr h => ⟨_, (pss_one (ps_ret (pe_lst (pa_cons (C8.pe_c c_run_plain hr (by omega) (by rfl) (pa_cons (pv 0) (pa_cons (pv 1) pa_nil))) (pa_cons (C8.pe_c c_run_machine hr (by omega) (by rfl) (pa_cons (pv 0) (pa_cons (pv 1) pa_nil))) (pa_cons (C8.pe_c c_run_code hr (by omega) (by rfl) (pa_cons (C8.pe_c c_compile_expression hr (by omega) (by rfl) (pa_cons (pv 0) pa_nil)) (pa_cons (pv 1) pa_nil))) pa_nil)))))), ?_⟩)
  · obtain ⟨sh, ds, i, ve, rfl, _⟩ := h
    rfl
  · obtain ⟨sh, ds, i, ve, rfl, re, hok, hn, k⟩ := h
    rw [st__law_roads]
    obtain ⟨N1, h1⟩ := p_top (sh := sh) (i := i) hok hn
    obtain ⟨N2, h2⟩ := m_top (sh := sh) (i := i) hok hn
    walk_at "w"
    refine ⟨_, _, _, _, _, _, N1, rfl, re, h1, fun H1 u1 le1 r1 => ?_⟩
    walk_at "w"
    refine ⟨_, _, _, _, _, _, N2, rfl, re.mono le1, h2, fun H2 u2 le2 r2 => ?_⟩
    walk_at "w"
    refine ⟨sh, ds, i, _, rfl, hn, (re.mono le1).mono le2, fun H3 y dy c le3 hy got => ?_⟩
    obtain ⟨ca, ⟨a0, h0⟩, gb, pb, qs, cmp⟩ := got
    obtain ⟨N3, h3⟩ := r_top (sh := sh) (cd := c) (qs := ((E.unit, ([] : List Nm)) :: lawQ sh ds) ++ qs) ⟨cmp, rfl, rfl, rfl, gb, pb⟩ h0 rfl hok hn
    walk_at "w"
    refine ⟨c, y, dy, a0, _, _, _, _, _, N3, rfl, hy, ca, h0, h3, fun H4 u3 le4 r3 => ?_⟩
    walk_at "w"
    rename_i l hl
    have le5 : Le K H4 (upd H4 l (.lst [u1, u2, u3])) := Le.new Le.refl hl
    have le25 := (le3.trans le4).trans le5
    have le15 := le2.trans le25
    exact k _ _ _ _ _ (le1.trans le15) upd_same (r1.mono le15) (r2.mono le25) (r3.mono le5)

abbrev noH0 : Hp := fun _ => none
theorem noK4 {H : Hp} {p q cl lp : Addr} : K4 noH0 H p q cl lp := fun _ _ _ _ _ _ e => nomatch e
structure There (H : Hp) (p : Addr) : Prop where
  ex : ∃ o, H p = some o
theorem There.ne {H : Hp} {p x : Addr} (h : There H p) (n : H x = none) : p ≠ x := by
  obtain ⟨o, e⟩ := h.ex
  exact ne_of_none e n
theorem StAt.there {H : Hp} {p q : Addr} (h : StAt H p q) : There H p ∧ There H q := by
  obtain ⟨j, cs, a, b, _⟩ := h
  exact ⟨⟨_, a⟩, ⟨_, b⟩⟩
theorem DSt.le4 {H0 H H' : Hp} {p q cl lp : Addr} {c : Int} {ps : List Int} (d : DSt H0 H p q cl lp c ps) (k : K4 H H' p q cl lp) (K : PySem.W.Frag) : Le K H H' := by
  obtain ⟨j, cs, a, b, _⟩ := d.st
  have f : ∀ {u : HO} {xs : List V}, ((∃ xs, u = .tup xs) ∨ (∃ o xs, u = .frz o (.tup xs))) → u ≠ .lst xs := fun z e => by rcases z with ⟨_, rfl⟩ | ⟨_, _, rfl⟩ <;> cases e
  exact Le.of fun x u e z => k x u (ne_of e a (f z)) (ne_of e b (f z)) (ne_of e d.hc (f z)) (ne_of e d.hp (f z)) e
theorem runs_snoc (sh : Bool) : ∀ (ds : List Deed) (d : Deed) (c : Int) (p : List Int), runs sh (ds ++ [d]) c p = ((d.run sh (runs sh ds c p).1 (runs sh ds c p).2).1, (d.run sh (runs sh ds c p).1 (runs sh ds c p).2).2)
  | [], _, _, _ => rfl
  | e :: ds, d, c, p => runs_snoc sh ds d _ _
theorem runs_len (sh : Bool) : ∀ (ds : List Deed) (c : Int) (p : List Int), (∀ d ∈ ds, d.ok) → (runs sh ds c p).2.length ≤ p.length + 4 * ds.length
  | [], _, _, _ => Nat.le_refl _
  | d :: ds, c, p, h => by
    have h1 := Deed.run_len sh (h d List.mem_cons_self) c p
    have h2 := runs_len sh ds (d.run sh c p).1 (d.run sh c p).2 fun x hx => h x (List.mem_cons_of_mem _ hx)
    show (runs sh ds (d.run sh c p).1 (d.run sh c p).2).2.length ≤ _
    rw [List.length_cons]
    omega
theorem w_genTI {t : TI} {σ : L2.St} {H : Hp} {R : It → Hp → Prop} (F : Hp → Prop) (f : F H) (k : ∀ H1, F H1 → t σ H1 R) : t σ H R := k H f
/-! ### the outcome as plain data -/
def pyO (i j : Int) (p : List Int) : PyData := .tuple [.tuple (p.map PyData.int), .tuple [.str "value", .tuple [.str "pair", .tuple [.str "int", .int i], .tuple [.str "int", .int j]]]]
theorem dp_ints {K : PySem.W.Frag} {H : Hp} : ∀ {p : List Int} {vs : List V}, Reps K H (p.map D.int) vs → DpAll K H vs (p.map PyData.int)
  | [], _, h => by rw [show _ = _ from h]; exact .nil
  | i :: r, _, ⟨v, t, e, a, b⟩ => by
    obtain rfl : v = .int i := a
    rw [e]
    exact .cons (.int i) (dp_ints b)
theorem Rep.py {K : PySem.W.Frag} {H : Hp} {v : V} {i j : Int} {p : List Int} (h : Rep K H (outD i j p) v) : Dp K H v (pyO i j p) := by
  obtain ⟨a, _, rfl, ha, _, _, rfl, ⟨b, vs, rfl, hb, rb⟩, _, _, rfl, ⟨c, _, rfl, hc, _, _, rfl, rfl, _, _, rfl, ⟨e, _, rfl, he, _, _, rfl, rfl, _, _, rfl, ⟨f, _, rfl, hf, _, _, rfl, rfl, _, _, rfl, rfl, rfl⟩, _, _, rfl, ⟨g, _, rfl, hg, _, _, rfl, rfl, _, _, rfl, rfl, rfl⟩, rfl⟩, rfl⟩, rfl⟩ := h
  exact .tup ha (.cons (.tup hb (dp_ints rb)) (.cons (.tup hc (.cons (.str _) (.cons (.tup he (.cons (.str _) (.cons (.tup hf (.cons (.str _) (.cons (.int _) .nil))) (.cons (.tup hg (.cons (.str _) (.cons (.int _) .nil))) .nil)))) .nil))) .nil))
theorem lay_ints : ∀ p : List Int, PyData.canLayAll0 (p.map PyData.int) = true
  | [] => by simp [PyData.canLayAll0]
  | i :: r => by simp [PyData.canLayAll0, PyData.canLay0, lay_ints r]
theorem dep_ints : ∀ p : List Int, PyData.depthAll (p.map PyData.int) = 0
  | [] => by simp [PyData.depthAll]
  | i :: r => by simp [PyData.depthAll, PyData.depth, dep_ints r]
theorem eqv_ints : ∀ p : List Int, PyData.eqvAll (p.map PyData.int) (p.map PyData.int) = true
  | [] => by simp [PyData.eqvAll]
  | i :: r => by simp [PyData.eqvAll, PyData.eqv, eqv_ints r]
theorem py_shaped (i j : Int) (p : List Int) : SeqAt.shaped (.list [pyO i j p, pyO i j p, pyO i j p]) = true := by
  have s1 : PyData.strOk "value" = true := by decide +kernel
  have s2 : PyData.strOk "pair" = true := by decide +kernel
  have s3 : PyData.strOk "int" = true := by decide +kernel
  simp [SeqAt.shaped, pyO, PyData.canLay0, PyData.canLayAll0, PyData.depth, PyData.depthAll, lay_ints, dep_ints, s1, s2, s3]
theorem py_eqv (i j : Int) (p : List Int) : PyData.eqv (.list [pyO i j p, pyO i j p, pyO i j p]) (.list [pyO i j p, pyO i j p, pyO i j p]) = true := by
  simp [pyO, PyData.eqv, PyData.eqvAll, eqv_ints]
abbrev nm_law : List Str := ["_law_script", "_law_state_here", "_law_shown", "_law_first", "_law_cell", "_law_prints", "_law_deeds", "_law_k_here", "_law_tree", "_law_deed_here", "_law_last", "_law_due"]
theorem sc_law : FnScope nm_law ["_law_script"] (defScope s_law) := ⟨rfl, rfl, rfl, by decide +kernel, rfl, by decide +kernel, by decide +kernel⟩
theorem st_law {a0 : V} : L2.start nm_law [a0] = [some a0, none, none, none, none, none, none, none, none, none, none, none] := rfl

def sp_law (K : PySem.W.Frag) : Sp := fun vs H Q _ => ∃ (a : Addr) (ns : List Int), vs = [.ref a] ∧ SqL K H a (ns.map V.int) ∧ ∀ H', Q (.bl true) H'
theorem b_ok_law (T : Txt w K mg) (c__law_state : C8.Cal P w K mg base 1 "_law_state" (sp_state K) []) (c__law_take : C8.Cal P w K mg base 1 "_law_take" sp_take []) (c__law_cut : C8.Cal P w K mg base 1 "_law_cut" sp_cut []) (c__law_state_clauses : C8.Cal P w K mg base 1 "_law_state_clauses" (sp_clauses K) []) (c__law_deed : C8.Cal P w K mg base 2 "_law_deed" (sp_deed K) []) (c__law_roads : C8.Cal P w K mg base 77 "_law_roads" (sp_roads K) []) : Body P w K mg base nm_law "law" s_law 77 (He.ga K "law") (sp_law K) := by
  refine fun cdv A outer s H vs Q Ex hr h => ⟨_, (pss_cons (ps_set (i := 1) sc_law.nd rfl (by first | exact Or.inl rfl | exact Or.inr rfl) (C8.pe_c c__law_state hr (by omega) (by rfl) (pa_cons (pv 0) pa_nil))) (pss_cons (ps_set (i := 2) sc_law.nd rfl (by first | exact Or.inl rfl | exact Or.inr rfl) (pe_cmpR op_eq (C8.pe_c c__law_take hr (by omega) (by rfl) (pa_cons (pv 1) (pa_cons pe_int pa_nil))) pe_int (by rfl))) (pss_cons (ps_set (i := 3) sc_law.nd rfl (by first | exact Or.inl rfl | exact Or.inr rfl) (C8.pe_c c__law_take hr (by omega) (by rfl) (pa_cons (pv 1) (pa_cons pe_int pa_nil)))) (pss_cons (ps_par (i := 4) (j := 5) rfl sc_law.nd rfl rfl (by decide) rfl rfl (pa_cons (pe_lst (pa_cons (pv 3) pa_nil)) (pa_cons (pe_lst pa_nil) pa_nil)) rfl) (pss_cons (ps_set (i := 6) sc_law.nd rfl (by first | exact Or.inl rfl | exact Or.inr rfl) (pe_lst pa_nil)) (pss_cons (ps_for PassesOwn.never rfl (pi_range1 (by rfl) T.z_range (pa_cons (C8.pe_c c__law_take hr (by omega) (by rfl) (pa_cons (pv 1) (pa_cons pe_int pa_nil))) pa_nil)) (pg_name (i := 7) sc_law.nd rfl (by first | exact Or.inl rfl | exact Or.inr rfl)) (pss_one (ps_expr (pe_bm PySem.F.plainAttrs_list PySem.F.slot_list_append PySem.F.type_list_append mt_append (pv 6) (pa_cons (C8.pe_c c__law_deed hr (by omega) (by rfl) (pa_cons (pv 1) (pa_cons (pv 4) (pa_cons (pv 5) (pa_cons (pv 2) pa_nil))))) pa_nil))))) (pss_cons (ps_set (i := 8) sc_law.nd rfl (by first | exact Or.inl rfl | exact Or.inr rfl) (pe_tup (pa_cons pe_str (pa_cons pe_str (pa_cons (pe_tup (pa_cons pe_str (pa_cons pe_str (pa_cons (pe_tup (pa_cons pe_str pa_nil)) pa_nil)))) (pa_cons (pe_tup (pa_cons pe_str (pa_cons pe_int pa_nil))) pa_nil)))))) (pss_cons (ps_for PassesOwn.never rfl (RT.pi_revA (by rfl) T.z_reversed (pv 6)) (pg_name (i := 9) sc_law.nd rfl (by first | exact Or.inl rfl | exact Or.inr rfl)) (pss_one (ps_set (i := 8) sc_law.nd rfl (by first | exact Or.inl rfl | exact Or.inr rfl) (pe_tup (pa_cons pe_str (pa_cons pe_str (pa_cons (pv 9) (pa_cons (pv 8) pa_nil)))))))) (pss_cons (ps_set (i := 10) sc_law.nd rfl (by first | exact Or.inl rfl | exact Or.inr rfl) (pe_tup (pa_cons pe_str (pa_cons (pe_tup (pa_cons pe_str (pa_cons pe_str (pa_cons (pe_tup (pa_cons pe_str (pa_cons (pe_tup (pa_cons pe_str (pa_cons pe_str pa_nil))) (pa_cons (pe_tup (pa_cons pe_str (pa_cons pe_str pa_nil))) pa_nil)))) pa_nil)))) pa_nil)))) (pss_cons (ps_set (i := 8) sc_law.nd rfl (by first | exact Or.inl rfl | exact Or.inr rfl) (pe_tup (pa_cons pe_str (pa_cons (pe_tup (pa_cons pe_str (pa_cons (pv 8) (pa_cons (pv 10) (pa_cons (C8.pe_c c__law_state_clauses hr (by omega) (by rfl) (pa_cons (pv 2) pa_nil)) pa_nil))))) (pa_cons (pe_tup (pa_cons pe_str (pa_cons (pv 3) pa_nil))) pa_nil))))) (pss_cons (ps_set (i := 11) sc_law.nd rfl (by first | exact Or.inl rfl | exact Or.inr rfl) (pe_tup (pa_cons (pe_callTy call_tupOf (by rfl) T.z_tuple (by decide +kernel) (pa_cons (pv 5) pa_nil)) (pa_cons (pe_tup (pa_cons pe_str (pa_cons (pe_tup (pa_cons pe_str (pa_cons (pe_tup (pa_cons pe_str (pa_cons (C8.pe_c c__law_cut hr (by omega) (by rfl) (pa_cons (pe_op op_sub (pe_ix ix_2 (pv 4) pe_int (fun _ _ => rfl)) pe_int) pa_nil)) pa_nil))) (pa_cons (pe_tup (pa_cons pe_str (pa_cons (pe_ix ix_2 (pv 4) pe_int (fun _ _ => rfl)) pa_nil))) pa_nil)))) pa_nil))) pa_nil)))) (pss_one (ps_ret (pe_cmpR (op_eqD hr.units) (C8.pe_c c__law_roads hr (by omega) (by rfl) (pa_cons (pv 8) (pa_cons pe_int pa_nil))) (pe_lst (pa_cons (pv 11) (pa_cons (pv 11) (pa_cons (pv 11) pa_nil)))) (by rfl))))))))))))))), ?_⟩
  · obtain ⟨a, ns, rfl, hs, k⟩ := h
    rw [st_law]
    walk_at "w"
    refine ⟨a, ns, rfl, hs, fun H1 p q s1 st1 f1 f2 => ?_⟩
    walk_at "w"
    refine ⟨p, q, 2, rfl, st1, by decide, by decide, fun H2 r st2 kq2 r0 r1 => ?_⟩
    walk_at "w"
    obtain ⟨sh, esh⟩ : ∃ sh, decide (V.int r = V.int 0) = sh := ⟨_, rfl⟩
    rw [esh]
    refine ⟨p, q, 1000, rfl, st2, by decide, by decide, fun H3 i st3 kq3 i0 i1 => ?_⟩
    walk_at "w"
    rename_i cl hcl lp hlp dl hdl
    obtain ⟨hp3, hq3⟩ := st3.there
    have ncp : cl ≠ p := (hp3.ne hcl).symm
    have ncq : cl ≠ q := (hq3.ne hcl).symm
    have nlp : lp ≠ p := (hp3.ne (free_new hlp)).symm
    have nlq : lp ≠ q := (hq3.ne (free_new hlp)).symm
    have ndp : dl ≠ p := (hp3.ne (free_new (free_new hdl))).symm
    have ndq : dl ≠ q := (hq3.ne (free_new (free_new hdl))).symm
    have ncl : cl ≠ lp := ne_of_none upd_same hlp
    have ndc : dl ≠ cl := (ne_of_none upd_same (free_new hdl)).symm
    have ndl : dl ≠ lp := (ne_of_none upd_same hdl).symm
    have d4 : DSt noH0 (upd (upd (upd H3 cl (HO.lst [V.int i])) lp (HO.lst [])) dl (HO.lst [])) p q cl lp i [] :=
      ⟨st3.keep fun b o _ e => get_new (get_new (get_new e hcl) hlp) hdl, get_new (get_new upd_same hlp) hdl, get_new upd_same hdl, noK4, ncp, ncq, nlp, nlq, ncl⟩
    have hdl4 : upd (upd (upd H3 cl (HO.lst [V.int i])) lp (HO.lst [])) dl (HO.lst []) dl = some (.lst []) := upd_same
    generalize hG : upd (upd (upd H3 cl (HO.lst [V.int i])) lp (HO.lst [])) dl (HO.lst []) = H4 at d4 hdl4 ⊢
    clear hG hdl hlp hcl hp3 hq3
    refine ⟨p, q, 13, rfl, d4.st, by decide, by decide, fun H5 r' st5 kq5 r0' r1' => ?_⟩
    have d5 : DSt noH0 H5 p q cl lp i [] := ⟨st5, kq5 _ _ ncp ncq d4.hc, kq5 _ _ nlp nlq d4.hp, noK4, ncp, ncq, nlp, nlq, ncl⟩
    have hdl5 := kq5 _ _ ndp ndq hdl4
    obtain ⟨m, rfl⟩ : ∃ m : Nat, r' = (m : Int) := ⟨r'.toNat, by omega⟩
    walk_at "w"
    refine ⟨_, rfl, by omega, by omega, ?_⟩
    rw [Int.toNat_natCast]
    refine for_range (fun k σ H' => (∃ v7, σ = [some (.ref a), some (.ref p), some (.bl sh), some (.int i), some (.ref cl), some (.ref lp), some (.ref dl), v7, none, none, none, none]) ∧ ∃ ds us, DSt noH0 H' p q cl lp (runs sh ds i []).1 (runs sh ds i []).2 ∧ H' dl = some (.lst us) ∧ Reps K H' (ds.map fun d => d.e.d) us ∧ ds.length = k ∧ ∀ d ∈ ds, d.ok) ⟨⟨none, rfl⟩, [], [], d5, hdl5, rfl, rfl, fun _ h => nomatch h⟩ ?_ ?_
    · rintro k σ H6 hk ⟨⟨v7, rfl⟩, ds, us, d6, hdl6, hr6, rfl, ok6⟩
      have hlen := runs_len sh ds i [] ok6
      rw [List.length_nil] at hlen
      have hlu := hr6.length
      rw [List.length_map] at hlu
      have hz : us.length ≤ 100000 := by omega
      walk_at "w"
      refine ⟨p, q, cl, lp, sh, _, _, rfl, d6.st, d6.hc, d6.hp, by omega, ⟨ncp, ncq, nlp, nlq, ncl⟩, fun H7 d u ok st7 hc7 hp7 k7 r7 => ?_⟩
      have hdl7 := k7 _ _ ndp ndq ndc ndl hdl6
      have le7 := d6.le4 k7 K
      walk_at "w"
      have le8 : Le K H7 (upd H7 dl (.lst (us ++ [u]))) := Le.lst Le.refl hdl7
      refine ⟨⟨_, rfl⟩, ds ++ [d], us ++ [u], ?_, upd_same, ?_, by rw [List.length_append, List.length_singleton], fun x hx => ?_⟩
      · rw [runs_snoc]
        exact ⟨st7.keep fun b o h e => get_ne e (by rcases h with rfl | rfl; exact ndp.symm; exact ndq.symm), get_ne hc7 ndc.symm, get_ne hp7 ndl.symm, noK4, ncp, ncq, nlp, nlq, ncl⟩
      · rw [List.map_append]
        exact Reps.append ((hr6.mono le7).mono le8) (Reps.one (r7.mono le8))
      · rcases List.mem_append.mp hx with hx | hx
        · exact ok6 x hx
        · rw [List.mem_singleton.mp hx]
          exact ok
    rintro σ H6 ⟨⟨v7, rfl⟩, ds, us, d6, hdl6, hr6, hld, ok6⟩
    have hlu := hr6.length
    rw [List.length_map] at hlu
    walk_at "w"
    rename_i ta ha tb hb tc htc td htd
    refine w_genTI (F := fun HH => Same H6 HH ∧ Rep K HH (treeE []).d (.ref td)) ⟨by walk_at "sm", by walk_at "rp"⟩ ?_
    rintro H7 ⟨s7, rt7⟩
    clear htd htc hb ha
    have sq7 : SqL K H7 dl us := sql_of (s7 _ _ hdl6)
    have hr7 := hr6.mono (Le.same s7)
    refine ⟨_, rfl, dl, us, rfl, .inl ⟨sq7, ?_⟩⟩
    refine for_it (walk_rev (xs := us)) (fun k σ H' => (∃ v8 v9, σ = [some (.ref a), some (.ref p), some (.bl sh), some (.int i), some (.ref cl), some (.ref lp), some (.ref dl), v7, some v8, v9, none, none] ∧ Rep K H' (treeE (ds.drop (us.length - k))).d v8) ∧ Same H7 H') ⟨⟨.ref td, none, rfl, ?_⟩, Same.refl _⟩ (fun k σ H' _ p => p.2.seq sq7) ?_ ?_
    · rw [Nat.sub_zero, hlu, List.drop_length]
      exact rt7
    · rintro k x σ H8 H9 hk ⟨⟨v8, v9, rfl, r8⟩, s8⟩ ⟨rfl, hx⟩
      obtain ⟨dd, hd, rx⟩ := hr7.get hx
      rw [List.getElem?_map] at hd
      obtain ⟨d, hd2, rfl⟩ := Option.map_eq_some_iff.mp hd
      have hr8 := rx.mono (Le.same s8)
      have ek : ds.drop (us.length - (k + 1)) = d :: ds.drop (us.length - k) := by
        rw [show us.length - (k + 1) = us.length - 1 - k by omega, drop_at hd2, show us.length - 1 - k + 1 = us.length - k by omega]
      rw [ek]
      walk_at "w"
      exact ⟨⟨_, _, rfl, by walk_at "rp"⟩, by walk_at "sm"⟩
    rintro σ H8 ⟨⟨v8, v9, rfl, r8⟩, s8⟩
    rw [Nat.sub_self, List.drop_zero] at r8
    have d8 := (d6.same s7).same s8
    have hlr := runs_len sh ds i [] ok6
    clear hr7 sq7 hr6 s8 s7 rt7 hdl6
    walk_at "w"
    rename_i pa ha pb hb pc hc pd hd pl hpl
    refine w_genS (F := fun HH => DSt noH0 HH p q cl lp (runs sh ds i []).1 (runs sh ds i []).2 ∧ Rep K HH (treeE ds).d v8 ∧ Rep K HH (lawH sh).ret (.ref pl)) ⟨d8.same (by walk_at "sm"), by walk_at "rp", by walk_at "rp"⟩ ?_
    rintro H9 ⟨d9, r9, rl9⟩
    clear hpl hd hc hb ha r8 d8
    refine ⟨sh, rfl, fun H10 uc s10 rc10 => ?_⟩
    have d10 := d9.same s10
    have r10 := r9.mono (Le.same s10)
    have rl10 := rl9.mono (Le.same s10)
    have hc10 := d10.hc
    have hp10 := d10.hp
    clear r9 rl9 d9
    walk_at "w"
    rename_i ph hph pn hpn pt hpt pp hpp
    refine w_genS (F := fun HH => DSt noH0 HH p q cl lp (runs sh ds i []).1 (runs sh ds i []).2 ∧ Rep K HH (topD sh ds i) (.ref pt) ∧ Rep K HH (.tup ((runs sh ds i []).2.map D.int)) (.ref pp)) ⟨d10.same (by walk_at "sm"), by walk_at "rp", ⟨pp, _, rfl, sqt_of upd_same, reps_ints _⟩⟩ ?_
    rintro H11 ⟨d11, rt11, rp11⟩
    clear hpp hpt hpn hph r10 rl10 rc10 d10
    have hc11 := d11.hc
    refine ⟨_, rfl, ?_⟩
    walk_at "w"
    rename_i qa hqa qb hqb qc hqc qd hqd qe hqe
    refine w_genS (F := fun HH => Rep K HH (topD sh ds i) (.ref pt) ∧ Rep K HH (lawOut sh ds i) (.ref qe)) ⟨by walk_at "rp", by walk_at "rp"⟩ ?_
    rintro H12 ⟨rt12, ro12⟩
    refine ⟨sh, ds, i, _, rfl, rt12, ok6, by omega, fun H13 l u1 u2 u3 le13 hl13 o1 o2 o3 => ?_⟩
    have ro13 := ro12.mono le13
    walk_at "w"
    rename_i l2 hl2
    have le14 : Le K H13 (upd H13 l2 (.lst [.ref qe, .ref qe, .ref qe])) := Le.new Le.refl hl2
    have q1 := (o1.mono le14).py
    have q2 := (o2.mono le14).py
    have q3 := (o3.mono le14).py
    have q4 := (ro13.mono le14).py
    refine ⟨_, _, Dp.lst (sql_of (get_new hl13 hl2)) (.cons q1 (.cons q2 (.cons q3 .nil))), Dp.lst (sql_of upd_same) (.cons q4 (.cons q4 (.cons q4 .nil))), py_shaped _ _ _, py_shaped _ _ _, ?_⟩
    rw [py_eqv]
    walk_at "w"
    exact k _

end
set_option maxRecDepth 100000
set_option maxHeartbeats 400000
section
variable {P : Program} {w : World} {K : PySem.W.Frag} {mg : Str → Option Value} {base : Heap}

theorem law_body (T : Txt w K mg) : Body P w K mg base nm_law "law" s_law 77 (He.ga K "law") (sp_law K) := by
  have quoted := ok_quoted (P := P) (base := base) T
  have parts := ok_parts (P := P) (base := base) T
  have bnames := ok_bound_names T parts
  have put_in := ok_put_in T parts bnames (ok_with_parts T) 40
  have counted := ok_Run_counted (P := P) (base := base) T
  have rcall := ok_Run_call T counted quoted put_in
  have rask := ok_Run_ask T counted (ok_Run_answer T quoted put_in)
  have goon := ok_Run_go_on T counted quoted put_in (ok_operated T) (ok_shape T (ok_shape0 T)) rcall rask
  have plain := ok_run_plain T (ok_Run_init T) (ok_is_value T (ok_isv0 T)) goon (ok_Run_begin T)
  have calcd := ok_calculated (P := P) (base := base) T
  have vshape := ok_vshape (P := P) (base := base) T (ok_vshape0 T)
  have mstep := ok_Mac_step (P := P) (base := base) T
  have madd := ok_Mac_add (P := P) (base := base) T
  have mwait := ok_Mac_wait (P := P) (base := base) T
  have mres := ok_Mac_resume T mwait calcd (ok_Mac_call T mstep madd) (ok_Mac_ask T mstep (ok_Mac_answer T))
  have mrun := ok_Mac_run T (ok_Mac_begin T mwait madd (ok_looked_up T)) mres (ok_Mac_handled T)
  have machine := ok_run_machine T (ok_run_counted T (ok_Mac_init T) mrun vshape)
  have piece := ok_Pc_init (P := P) (base := base) T
  have enter := ok_Rn_enter (P := P) (base := base) T
  have save := ok_Rn_save (P := P) (base := base) T
  have radd := ok_Rn_add (P := P) (base := base) T
  have rcnt := ok_Rn_counted2 (P := P) (base := base) T
  have deliver := ok_Rn_deliver T enter vshape
  have rnstep := ok_Rn_step T (ok_Rn_call T rcnt save radd enter piece deliver) deliver (ok_Rn_ask T rcnt save (ok_Pc_frozen T) enter) (ok_Rn_handle T save radd enter piece) (ok_Rn_move T) (ok_Rn_worked T calcd)
  have code := ok_run_code T (ok_run_kept T (ok_Rn_init T piece enter) rnstep)
  have block := ok_block (P := P) (base := base) T
  have once := ok_once (P := P) (base := base) T (ok_answers T)
  have lastA := ok_lastA T block (ok_valueH T (ok_handler T block once))
  have compile := ok_compile T (ok_Cp_init T) block (ok_compile_all T lastA) (ok_Code_init T)
  have take := ok_take (P := P) (base := base) T
  have lcut := ok_cut (P := P) (base := base) T
  exact b_ok_law T (ok_state T) take lcut (ok_clauses T) (ok_deed T take lcut) (ok_roads T plain machine code compile)
/-- the law's function, from the text's facts -/
theorem law_fn (T : Txt w K mg) : ∃ fd : FuncData, (∀ (s : Shared) (u : Value), BindsTo s fd ⟨[u], []⟩ [("_law_script", u)]) ∧ ∀ base : Heap, FnOk P w K mg base C8.CX0 78 (He.ga K "law") fd ["_law_script"] (sp_law K) := by
  obtain ⟨fd, F⟩ := T.f_law
  have b := FunD.bindsA (ps := ["_law_script"]) F fun _ _ _ _ _ _ us hl => match us, hl with | [_], _ => rfl
  refine ⟨fd, fun s v => b s [v] rfl, fun base => F.ok sc_law (fun vs H Q E h => by obtain ⟨a, ns, rfl, _⟩ := h; rfl) (fun cdv A outer s H vs Q E hr h => (law_body T cdv A outer s H vs Q E hr h).imp fun t ⟨h1, h2⟩ => ⟨h1.nox, h2⟩)⟩
end
end K42
namespace K42
open PySem PySem.Spec PyProof.Rows L2
theorem law_at {w : World} {K : PySem.W.Frag} {mg : Str → Option Value} {fa : Addr} {h : Heap} (T : Txt w K mg) (e : mg "law" = some (.ref fa)) : LamX.LawAtS PySem.Challenge.rw_askedfor_k42_whole_state w K C8.CX0 78 63 "_law_script" mg fa h := by
  cases e.symm.trans T.g_law
  obtain ⟨fd, hb, hF⟩ := law_fn (P := (PySem.Challenge.rw_askedfor_k42_whole_state).prog) T
  exact ⟨fd, [], sp_law K, (fun _ h => nomatch h), (fun _ h => nomatch h), (fun _ h => nomatch h), hb, fun H a ns _ _ _ hS => ⟨a, ns, rfl, hS, fun _ => rfl⟩, fun base _ _ _ => hF base⟩
end K42
open PySem PySem.W PySem.Calls PyProof.Rows
set_option maxRecDepth 100000 in
set_option maxHeartbeats 0 in
theorem PySem.Challenge.cw_askedfor_k42_whole_state_holds : PySem.Challenge.rw_askedfor_k42_whole_state.Holds := by
  w_on; o_law
  refine HandSHeadRun.head_any (r := OpenLaw.row PySem.Challenge.rw_askedfor_k42_whole_state) (q := view (OpenLaw.row PySem.Challenge.rw_askedfor_k42_whole_state).prog [51]) (H := K42.hk) (ob := K42.ob) (M := 6000) (loose := K42.nms) (d := HandSHeadRun.topDef (OpenLaw.row PySem.Challenge.rw_askedfor_k42_whole_state).prog 51) (kwd := []) K42.ob_eq
    (by kernel_rfl) (fun s => by kernel_rfl) K42.run (by kernel_rfl) (by kernel_rfl) (by kernel_rfl) (by rfl) (by first | assumption | decide +kernel) (by decide +kernel) ⟨rfl, rfl, rfl, rfl, rfl, by decide +kernel⟩ ?hw ?hc
  case hw => w_witness2
  case hc =>
    refine LamX.walk_ofTsE (l := PySem.Challenge.rw_askedfor_k42_whole_state) (n := 63) (k := 78) (x := "_law_script") (CX := fun _ => C8.CX0) rfl (by decide) (by kernel_rfl) ⟨rfl, by decide, by decide⟩ ?F (fun _ _ _ _ _ z => z)
    intro w mg fa h Y G hmg0
    obtain ⟨K, KX, c⟩ := Y
    have hmg : mg ("law" : PySem.Str) = some (.ref fa) := by
      have e : (HandSHeadRun.topDef (OpenLaw.row PySem.Challenge.rw_askedfor_k42_whole_state).prog 51).name = ("law" : PySem.Str) := by kernel_rfl
      rw [← e]
      exact hmg0
    exact ⟨K, KX, K42.law_at (K42.txt_of KX G c) hmg⟩
