import PyProof.Rows.All
import Wide.All
import OpenK.AllK
import Wide.FinOn
import HandS.ForMost
import HandS.Wide
import HandS.Walk
import HandS.Zip
import HandS.TupAny
import HandS.TupMul
import HandS.More
import HandS.ForExc
import HandS.ExcInit
import HandS.ExcIs
import HandS.ExcField
import HandS.IsInst
import KE.KDictKeyed
import KE.KDictDisplayH
import HandS.Style
import HandS.Strs
import HandS.Deep
import HandS.SortInts
import HandS.TupLen
import HandS.SetFor
import HandS.Conv
import HandS.WordsDict
import HandS.WordsList
import HandS.WordsExc
import HandS.ExcOwn
import KE.KExcIs
import HandS.RaiseMore
import KE.KDictZip
import PyProof.Draws
import PyProof.EnumMake
import HandS.Iter
import HandS.NoneIn
import KE.KDictList
import HandS.TupLe
import HandS.CallLocal
import HandS.ReCall
import HandS.WideBits
import KE.LtSeq
import KE.KDictWalk
import KE.KDictCopyH
import PyProof.DictUpdate
import HandS.Ends
import PySem.Challenge.RW_walksago_k61_kept_draws
set_option Elab.async false
set_option linter.all false
set_option maxRecDepth 100000
set_option maxHeartbeats 4000000
namespace DL
open PySem PySem.Spec PyProof.Rows L2

/-! ### data -/
inductive D where
  | non | bl (b : Bool) | int (i : Int) | str (x : Str)
  | tup (ds : List D) | lst (ds : List D) | scr (ns : List Int)
  | dic (kvs : List (D × D)) | dit (kvs : List (D × D))
  | exc (c : Nat) (fs : List (Str × D))
  | tpl (ds : List D) | fn (c : Nat)
  | nst (ds : List D) | mu (d : D)
  | dtt (ks : List D) | ins (c : Nat) (fs : List (Str × D))
abbrev Kf := PySem.W.Frag
/-- the classes of what is refused, by number -/
def exName : Nat → Str
  | 0 => "LongError"
  | 1 => "NoWeb"
  | 2 => "NoTable"
  | 3 => "NoName"
  | 4 => "NoRest"
  | 5 => "NoOrder"
  | _ => "NoAsk"
/-- the class numbered c stands at C -/
def ExA (K : Kf) (c : Nat) (C : Addr) : Prop := PySem.W.nsIn K mainGlobals (exName c) = some (some (.ref C))
theorem ExA.uniq {K : Kf} {c : Nat} {C C' : Addr} (h : ExA K c C) (h' : ExA K c C') : C = C' := by
  unfold ExA at h h'
  rw [h] at h'
  cases h'
  rfl
/-- a caught exception, kept as a value -/
def ExH (C : Addr) (d : Option Addr) (a : Addr) : HO := .ext fun h => ∃ (oe : Obj) (vs : Array Value), h.get? a = some oe ∧ (oe.cls = .ref C ∧ oe.dict = d) ∧ oe.data = .fields vs
/-- an exception with one text, that stands at t as a tuple -/
def ExT (C t a : Addr) : HO := .ext fun h => ∃ (oe : Obj) (vs : Array Value), h.get? a = some oe ∧ (oe.cls = .ref C ∧ oe.dict = none) ∧ oe.data = .fields vs ∧ vs[0]? = some (.ref t)
/-- functions that are handed on as values, by number -/
def fnName : Nat → Str
  | 0 => "led_by"
  | _ => "met_by"
def FnA (K : Kf) (c : Nat) (a : Addr) : Prop := PySem.W.nsIn K mainGlobals (fnName c) = some (some (.ref a))
theorem FnA.uniq {K : Kf} {c : Nat} {C C' : Addr} (h : FnA K c C) (h' : FnA K c C') : C = C' := by
  unfold FnA at h h'
  rw [h] at h'
  cases h'
  rfl
def keyD : Key → D
  | .inl i => .int i
  | .inr x => .str x

mutual
inductive R (K : Kf) (F : Hp) : V → D → Prop
  | non : R K F .non .non
  | bl (b : Bool) : R K F (.bl b) (.bl b)
  | int (i : Int) : R K F (.int i) (.int i)
  | str (x : Str) : R K F (.str x) (.str x)
  | tup {a : Addr} {vs : List V} {ds : List D} : F a = some (.tup vs) → RA K F vs ds → R K F (.ref a) (.tup ds)
  | tpl {a : Addr} {ob : Obj} {vs : List V} {ds : List D} : F a = some (.frz ob (.tup vs)) → ob.dict = none → RA K F vs ds → R K F (.ref a) (.tpl ds)
  | fn {a : Addr} {c : Nat} : FnA K c a → R K F (.ref a) (.fn c)
  | lst {a : Addr} {vs : List V} {ds : List D} : F a = some (.lst vs) → RA K F vs ds → R K F (.ref a) (.lst ds)
  | scr {a : Addr} {ns : List Int} : SqL K F a (ns.map V.int) → R K F (.ref a) (.scr ns)
  | dic {a : Addr} {kvs : List (Key × V)} {ds : List (D × D)} : F a = some (.dK kvs) → RK K F kvs ds → R K F (.ref a) (.dic ds)
  | dit {a : Addr} {kvs : List (List Key × V)} {ds : List (D × D)} : F a = some (.dT kvs) → RT K F kvs ds → R K F (.ref a) (.dit ds)
  | ex0 {a C : Addr} {c : Nat} : ExA K c C → F a = some (ExH C none a) → R K F (.ref a) (.exc c [])
  | ex1 {a C dd : Addr} {c : Nat} {f : Str} {v : V} {d : D} : ExA K c C → F a = some (ExH C (some dd) a) → F dd = some (.xd [(f, v)]) → R K F v d → R K F (.ref a) (.exc c [(f, d)])
  | exs {a C t : Addr} {c : Nat} {s : Str} : ExA K c C → F a = some (ExT C t a) → F t = some (.tup [.str s]) → R K F (.ref a) (.exc c [("text", .str s), ("text", .non)])
  | nst {a : Addr} {ds : List D} : R K F (.ref a) (.nst ds)
  | dtt {a : Addr} {ks : List D} : R K F (.ref a) (.dtt ks)
  | ins {a : Addr} {c : Nat} {fs : List (Str × D)} : R K F (.ref a) (.ins c fs)
inductive RA (K : Kf) (F : Hp) : List V → List D → Prop
  | nil : RA K F [] []
  | cons {v : V} {vs : List V} {d : D} {ds : List D} : R K F v d → RA K F vs ds → RA K F (v :: vs) (d :: ds)
inductive RK (K : Kf) (F : Hp) : List (Key × V) → List (D × D) → Prop
  | nil : RK K F [] []
  | cons {k : Key} {v : V} {vs : List (Key × V)} {d : D} {ds : List (D × D)} : R K F v d → RK K F vs ds → RK K F ((k, v) :: vs) ((keyD k, d) :: ds)
inductive RT (K : Kf) (F : Hp) : List (List Key × V) → List (D × D) → Prop
  | nil : RT K F [] []
  | cons {k : List Key} {v : V} {vs : List (List Key × V)} {d : D} {ds : List (D × D)} : R K F v d → RT K F vs ds → RT K F ((k, v) :: vs) ((.tup (k.map keyD), d) :: ds)
end

/-- all of F stands in F' -/
abbrev Le (F F' : Hp) : Prop := Same F F'
theorem le_sq {K : Kf} {F F' : Hp} (h : Le F F') {a : Addr} {xs : List V} (s : SqL K F a xs) : SqL K F' a xs := h.seq s
mutual
theorem R.mono {K : Kf} {F F' : Hp} (h : Le F F') : ∀ {v : V} {d : D}, R K F v d → R K F' v d
  | _, _, .non => .non
  | _, _, .bl b => .bl b
  | _, _, .int i => .int i
  | _, _, .str x => .str x
  | _, _, .tup e a => .tup (h _ _ e) (RA.mono h a)
  | _, _, .tpl e n a => .tpl (h _ _ e) n (RA.mono h a)
  | _, _, .fn e => .fn e
  | _, _, .lst e a => .lst (h _ _ e) (RA.mono h a)
  | _, _, .scr e => .scr (le_sq h e)
  | _, _, .dic e a => .dic (h _ _ e) (RK.mono h a)
  | _, _, .dit e a => .dit (h _ _ e) (RT.mono h a)
  | _, _, .ex0 x e => .ex0 x (h _ _ e)
  | _, _, .ex1 x e g r => .ex1 x (h _ _ e) (h _ _ g) (R.mono h r)
  | _, _, .exs x e g => .exs x (h _ _ e) (h _ _ g)
  | _, _, .nst => .nst
  | _, _, .dtt => .dtt
  | _, _, .ins => .ins
theorem RA.mono {K : Kf} {F F' : Hp} (h : Le F F') : ∀ {v : List V} {d : List D}, RA K F v d → RA K F' v d
  | _, _, .nil => .nil
  | _, _, .cons r t => .cons (R.mono h r) (RA.mono h t)
theorem RK.mono {K : Kf} {F F' : Hp} (h : Le F F') : ∀ {v : List (Key × V)} {d : List (D × D)}, RK K F v d → RK K F' v d
  | _, _, .nil => .nil
  | _, _, .cons r t => .cons (R.mono h r) (RK.mono h t)
theorem RT.mono {K : Kf} {F F' : Hp} (h : Le F F') : ∀ {v : List (List Key × V)} {d : List (D × D)}, RT K F v d → RT K F' v d
  | _, _, .nil => .nil
  | _, _, .cons r t => .cons (R.mono h r) (RT.mono h t)
end
section
variable {K : Kf} {F : Hp}
theorem RA.length : ∀ {vs : List V} {ds : List D}, RA K F vs ds → vs.length = ds.length
  | _, _, .nil => rfl
  | _, _, .cons _ t => by rw [List.length_cons, List.length_cons, RA.length t]
theorem RA.append : ∀ {vs ws : List V} {ds es : List D}, RA K F vs ds → RA K F ws es → RA K F (vs ++ ws) (ds ++ es)
  | _, _, _, _, .nil, h => h
  | _, _, _, _, .cons r t, h => .cons r (RA.append t h)
theorem RA.get : ∀ {vs : List V} {ds : List D} {i : Nat} {d : D}, RA K F vs ds → ds[i]? = some d → ∃ v, vs[i]? = some v ∧ R K F v d
  | _, _, _, _, .nil, h => by simp at h
  | _, _, 0, _, .cons r t, h => by simp at h; subst h; exact ⟨_, rfl, r⟩
  | _, _, i + 1, d, .cons r t, h => by
    obtain ⟨v, h1, h2⟩ := RA.get (i := i) (d := d) t (by simpa using h)
    exact ⟨v, by simpa using h1, h2⟩
theorem RA.get' : ∀ {vs : List V} {ds : List D} {i : Nat} {v : V}, RA K F vs ds → vs[i]? = some v → ∃ d, ds[i]? = some d ∧ R K F v d
  | _, _, _, _, .nil, h => by simp at h
  | _, _, 0, _, .cons r t, h => by simp at h; subst h; exact ⟨_, rfl, r⟩
  | _, _, i + 1, d, .cons r t, h => by
    obtain ⟨v, h1, h2⟩ := RA.get' (i := i) (v := d) t (by simpa using h)
    exact ⟨v, by simpa using h1, h2⟩
theorem RA.take : ∀ {vs : List V} {ds : List D} (n : Nat), RA K F vs ds → RA K F (vs.take n) (ds.take n)
  | _, _, 0, _ => .nil
  | _, _, _ + 1, .nil => .nil
  | _, _, n + 1, .cons r t => .cons r (RA.take n t)
theorem RA.drop : ∀ {vs : List V} {ds : List D} (n : Nat), RA K F vs ds → RA K F (vs.drop n) (ds.drop n)
  | _, _, 0, h => h
  | _, _, _ + 1, .nil => .nil
  | _, _, n + 1, .cons r t => RA.drop n t
theorem RA.set {v : V} {d : D} (r : R K F v d) : ∀ {vs : List V} {ds : List D} (i : Nat), RA K F vs ds → RA K F (vs.set i v) (ds.set i d)
  | _, _, _, .nil => .nil
  | _, _, 0, .cons _ t => .cons r t
  | _, _, i + 1, .cons q t => .cons q (RA.set r i t)
theorem RA.erase : ∀ {vs : List V} {ds : List D} (i : Nat), RA K F vs ds → RA K F (vs.eraseIdx i) (ds.eraseIdx i)
  | _, _, _, .nil => .nil
  | _, _, 0, .cons _ t => t
  | _, _, i + 1, .cons q t => .cons q (RA.erase i t)
theorem RA.reverse : ∀ {vs : List V} {ds : List D}, RA K F vs ds → RA K F vs.reverse ds.reverse
  | _, _, .nil => .nil
  | _, _, .cons r t => by rw [List.reverse_cons, List.reverse_cons]; exact RA.append (RA.reverse t) (.cons r .nil)
theorem RA.dropLast {vs : List V} {ds : List D} (h : RA K F vs ds) : RA K F vs.dropLast ds.dropLast := by
  rw [List.dropLast_eq_take, List.dropLast_eq_take, h.length]; exact h.take _
theorem RA.rep {vs : List V} {ds : List D} (h : RA K F vs ds) : ∀ k : Nat, RA K F (List.replicate k vs).flatten (List.replicate k ds).flatten
  | 0 => .nil
  | k + 1 => by rw [List.replicate_succ, List.replicate_succ, List.flatten_cons, List.flatten_cons]; exact h.append (RA.rep h k)
theorem RA.ints : ∀ {vs : List V} {ns : List Int}, RA K F vs (ns.map D.int) → vs = ns.map V.int
  | _, [], .nil => rfl
  | _, n :: ns, .cons r t => by cases r; rw [List.map_cons, RA.ints t]
theorem RA.of_ints : ∀ (ns : List Int), RA K F (ns.map V.int) (ns.map D.int)
  | [] => .nil
  | n :: ns => .cons (.int n) (RA.of_ints ns)
theorem R.key {v : V} {k : Key} (h : R K F v (keyD k)) : v = kV k := by
  cases k with
  | inl i => cases h; rfl
  | inr x => cases h; rfl
theorem RA.keys : ∀ {vs : List V} {ks : List Key}, RA K F vs (ks.map keyD) → vs = ks.map kV
  | _, [], .nil => rfl
  | _, k :: ks, .cons r t => by rw [List.map_cons, ← RA.keys t, ← R.key r]
theorem R.of_key (k : Key) : R K F (kV k) (keyD k) := by
  cases k with
  | inl i => exact .int i
  | inr x => exact .str x
end

/-! ### the frozen heap within the heap -/
def isDictO : HO → Bool
  | .dK _ => true
  | .dT _ => true
  | _ => false
def Sub (F H : Hp) : Prop := ∀ a o, F a = some o → H a = some o ∨ (isDictO o = true ∧ ∃ ob, H a = some (.frz ob o))
theorem Sub.ne {F H : Hp} (s : Sub F H) {a : Addr} {o : HO} (h : F a = some o) : H a ≠ none := by
  rcases s a o h with h | ⟨_, ob, h⟩ <;> rw [h] <;> simp
theorem Sub.free {F H : Hp} (s : Sub F H) {a : Addr} (h : H a = none) : F a = none := by
  cases q : F a with
  | none => rfl
  | some o => exact absurd h (s.ne q)
/-- at the top by the heap, below by the frozen part -/
def R1 (K : Kf) (F H : Hp) (v : V) : D → Prop
  | .non => v = .non
  | .bl b => v = .bl b
  | .int i => v = .int i
  | .str x => v = .str x
  | .tup ds => ∃ a vs, v = .ref a ∧ H a = some (.tup vs) ∧ RA K F vs ds ∧ F a = some (.tup vs)
  | .tpl ds => ∃ a ob vs, v = .ref a ∧ H a = some (.frz ob (.tup vs)) ∧ ob.dict = none ∧ RA K F vs ds ∧ F a = some (.frz ob (.tup vs))
  | .fn c => ∃ a, v = .ref a ∧ FnA K c a
  | .lst ds => ∃ a vs, v = .ref a ∧ H a = some (.lst vs) ∧ RA K F vs ds
  | .scr ns => ∃ a, v = .ref a ∧ SqL K H a (ns.map V.int)
  | .dic kv => ∃ a kvs, v = .ref a ∧ Rd H a (.dK kvs) ∧ RK K F kvs kv
  | .dit kv => ∃ a kvs, v = .ref a ∧ Rd H a (.dT kvs) ∧ RT K F kvs kv
  | .exc c fs => (∃ a C d, v = .ref a ∧ ExA K c C ∧ H a = some (ExH C d a) ∧ ((d = none ∧ fs = []) ∨ ∃ dd f u e, d = some dd ∧ fs = [(f, e)] ∧ H dd = some (.xd [(f, u)]) ∧ R K F u e)) ∨
    ∃ a C t s, v = .ref a ∧ ExA K c C ∧ H a = some (ExT C t a) ∧ H t = some (.tup [.str s]) ∧ fs = ([("text", .str s), ("text", .non)] : List (Str × D))
  | .nst _ => ∃ a, v = .ref a
  | .dtt _ => ∃ a, v = .ref a
  | .ins _ _ => ∃ a, v = .ref a
  | .mu _ => False
theorem Sub.nd {F H : Hp} (s : Sub F H) {a : Addr} {o : HO} (h : F a = some o) (n : isDictO o = false) : H a = some o := by
  rcases s a o h with h | ⟨z, _⟩
  · exact h
  · rw [n] at z; cases z
theorem Sub.rd {F H : Hp} (s : Sub F H) {a : Addr} {o : HO} (h : F a = some o) : Rd H a o := by
  rcases s a o h with h | ⟨z, ob, h⟩
  · exact .inl h
  · exact .inr ⟨ob, h⟩
theorem Sub.sq {K : Kf} {F H : Hp} (s : Sub F H) {a : Addr} {xs : List V} (h : SqL K F a xs) : SqL K H a xs := by
  rcases h with (h | ⟨o, h⟩) | h
  · exact .inl (.inl (s.nd h rfl))
  · exact .inl (.inr ⟨o, s.nd h rfl⟩)
  · exact .inr h
theorem R.top {K : Kf} {F H : Hp} (s : Sub F H) {v : V} {d : D} (h : R K F v d) : R1 K F H v d := by
  cases h with
  | non => rfl
  | bl b => rfl
  | int i => rfl
  | str x => rfl
  | tup e a => exact ⟨_, _, rfl, s.nd e rfl, a, e⟩
  | tpl e n a => exact ⟨_, _, _, rfl, s.nd e rfl, n, a, e⟩
  | fn e => exact ⟨_, rfl, e⟩
  | lst e a => exact ⟨_, _, rfl, s.nd e rfl, a⟩
  | scr e => exact ⟨_, rfl, s.sq e⟩
  | dic e a => exact ⟨_, _, rfl, s.rd e, a⟩
  | dit e a => exact ⟨_, _, rfl, s.rd e, a⟩
  | ex0 x e => exact .inl ⟨_, _, _, rfl, x, s.nd e rfl, .inl ⟨rfl, rfl⟩⟩
  | ex1 x e g r => exact .inl ⟨_, _, _, rfl, x, s.nd e rfl, .inr ⟨_, _, _, _, rfl, rfl, s.nd g rfl, r⟩⟩
  | exs x e g => exact .inr ⟨_, _, _, _, rfl, x, s.nd e rfl, s.nd g rfl, rfl⟩
  | nst => exact ⟨_, rfl⟩
  | dtt => exact ⟨_, rfl⟩
  | ins => exact ⟨_, rfl⟩

/-! ### the state by data -/
inductive DV where
  | fz (d : D) | ow (b : Bool) (d : D)
abbrev En := List (Option DV)
/-! #### dicts by tuples of tuples of whole numbers -/
mutual
def nkOf : D → Option NestedKey
  | .int i => some (.num i)
  | .tup ds => (nksOf ds).bind fun ks => some (.tup ks)
  | _ => none
def nksOf : List D → Option (List NestedKey)
  | [] => some []
  | d :: ds => (nkOf d).bind fun k => (nksOf ds).bind fun ks => some (k :: ks)
end
def NdRaw (h : Heap) (p : Addr) (xs : List (NestedKey × Addr)) : Prop := (p == sysModules) = false ∧ ∃ o es ep, h.get? p = some o ∧ o.ExactDict ∧ o.data = .dict es ep ∧ (∀ w : World, es.toList = xs.map fun x => ⟨NestedKey.hash w x.1, .ref x.2, .bool true⟩) ∧ (xs.map (·.1)).Nodup
def NdH (p : Addr) (xs : List (NestedKey × Addr)) : HO := .ext fun h => NdRaw h p xs
inductive RN (K : Kf) (F : Hp) : List (NestedKey × Addr) → List D → Prop
  | nil : RN K F [] []
  | cons {k : NestedKey} {a : Addr} {d : D} {xs : List (NestedKey × Addr)} {ds : List D} : nkOf d = some k → R K F (.ref a) d → RN K F xs ds → RN K F ((k, a) :: xs) (d :: ds)
theorem RN.mono {K : Kf} {F F' : Hp} (l : Le F F') : ∀ {xs : List (NestedKey × Addr)} {ds : List D}, RN K F xs ds → RN K F' xs ds
  | _, _, .nil => .nil
  | _, _, .cons e r t => .cons e (r.mono l) (t.mono l)
/-! #### instances of the program's classes -/
def insName : Nat → Str
  | _ => "KeptDraw"
def InsA (K : Kf) (c : Nat) (C : Addr) : Prop := PySem.W.nsIn K mainGlobals (insName c) = some (some (.ref C))
inductive RS (K : Kf) (F : Hp) : List (Str × V) → List (Str × D) → Prop
  | nil : RS K F [] []
  | cons {f : Str} {v : V} {d : D} {vs : List (Str × V)} {ds : List (Str × D)} : R K F v d → RS K F vs ds → RS K F ((f, v) :: vs) ((f, d) :: ds)
theorem RS.mono {K : Kf} {F F' : Hp} (l : Le F F') : ∀ {xs : List (Str × V)} {ds : List (Str × D)}, RS K F xs ds → RS K F' xs ds
  | _, _, .nil => .nil
  | _, _, .cons r t => .cons (r.mono l) (t.mono l)
def ObI (K : Kf) (F H : Hp) (p : Addr) (c : Nat) (fs : List (Str × D)) : Prop := ∃ C dx vs, InsA K c C ∧ H p = some (.ins C dx vs) ∧ F dx = some (.own p) ∧ RS K F vs fs
theorem ObI.mono {K : Kf} {F F' H H' : Hp} {p : Addr} {c : Nat} {fs : List (Str × D)} (l : Le F F') (e : H' p = H p) (h : ObI K F H p c fs) : ObI K F' H' p c fs := by
  obtain ⟨C, dx, vs, h1, h2, h3, h4⟩ := h
  exact ⟨C, dx, vs, h1, by rw [e]; exact h2, l _ _ h3, h4.mono l⟩
/-- what may be frozen: what was, what is new, a tuple (it never changes) -/
abbrev Gw (F H : Hp) (a : Addr) (o : HO) : Prop := F a = some o ∨ H a = none ∨ ((∃ vs, o = .tup vs) ∧ H a = some o)
/-- what may change, by its kind -/
abbrev MutO := {o : HO // Mut (some o)}
structure Gh where
  H0 : Hp
  F0 : Hp
  B : List (Nat × Addr)
  Lk : List (Addr × HO)
  Pn : List (Addr × MutO)
  Bx : List Addr
/-- what may change of what was -/
abbrev Gh.X (G : Gh) : List Addr := G.B.map (·.2) ++ G.Bx
def Ob (K : Kf) (F H : Hp) (p : Addr) : D → Prop
  | .lst ds => ∃ vs, H p = some (.lst vs) ∧ RA K F vs ds
  | .dic kv => ∃ kvs, H p = some (.dK kvs) ∧ RK K F kvs kv
  | .dit kv => ∃ kvs, H p = some (.dT kvs) ∧ RT K F kvs kv
  | .nst _ => ∃ vs, H p = some (.lst vs)
  | .dtt ks => ∃ xs, H p = some (NdH p xs) ∧ RN K F xs ks
  | .ins c fs => ObI K F H p c fs
  | _ => False
/-! #### lists of lists of one's own -/
def isN : D → Bool
  | .nst _ => true
  | _ => false
/-- the inner things -/
def inn : List V → List D → List Addr
  | .ref q :: vs, .mu _ :: ds => q :: inn vs ds
  | _ :: vs, _ :: ds => inn vs ds
  | _, _ => []
def fpI (H : Hp) (p : Addr) : D → List Addr
  | .nst ds => match H p with
    | some (.lst vs) => inn vs ds
    | _ => []
  | _ => []
/-- an inner list or dict -/
def Ob0 (K : Kf) (F H : Hp) (p : Addr) : D → Prop
  | .lst ds => ∃ vs, H p = some (.lst vs) ∧ RA K F vs ds
  | .dic kv => ∃ kvs, H p = some (.dK kvs) ∧ RK K F kvs kv
  | .dit kv => ∃ kvs, H p = some (.dT kvs) ∧ RT K F kvs kv
  | .ins c fs => ObI K F H p c fs
  | _ => False
def El (K : Kf) (F H : Hp) (v : V) : D → Prop
  | .mu e => ∃ q, v = .ref q ∧ F q = none ∧ Ob0 K F H q e
  | d => R K F v d
inductive OA (K : Kf) (F H : Hp) : List V → List D → Prop
  | nil : OA K F H [] []
  | cons {v : V} {vs : List V} {d : D} {ds : List D} : El K F H v d → OA K F H vs ds → OA K F H (v :: vs) (d :: ds)
theorem Ob0.has {K : Kf} {F H : Hp} {p : Addr} {d : D} (h : Ob0 K F H p d) : ∃ o, H p = some o ∧ Mut (some o) := by
  cases d <;> first | exact h.elim | (obtain ⟨vs, e, _⟩ := h; exact ⟨_, e, trivial⟩) | (obtain ⟨C, dx, vs, _, e, _⟩ := h; exact ⟨_, e, trivial⟩)
theorem Ob0.mono {K : Kf} {F F' H H' : Hp} {p : Addr} {d : D} (le : Le F F') (e : H' p = H p) (h : Ob0 K F H p d) : Ob0 K F' H' p d := by
  cases d with
  | lst ds => obtain ⟨vs, a, r⟩ := h; exact ⟨vs, by rw [e]; exact a, r.mono le⟩
  | dic ds => obtain ⟨vs, a, r⟩ := h; exact ⟨vs, by rw [e]; exact a, r.mono le⟩
  | dit ds => obtain ⟨vs, a, r⟩ := h; exact ⟨vs, by rw [e]; exact a, r.mono le⟩
  | ins c fs => exact ObI.mono le e h
  | _ => exact h.elim
theorem El.of {K : Kf} {F H : Hp} {v : V} {d : D} (h : R K F v d) : El K F H v d := by
  cases h
  case non => exact .non
  case bl => exact .bl _
  case int => exact .int _
  case str => exact .str _
  case tup a b => exact .tup a b
  case tpl a b c => exact .tpl a b c
  case fn a => exact .fn a
  case lst a b => exact .lst a b
  case scr a => exact .scr a
  case dic a b => exact .dic a b
  case dit a b => exact .dit a b
  case ex0 a b => exact .ex0 a b
  case ex1 a b c d => exact .ex1 a b c d
  case exs a b c => exact .exs a b c
  case nst => exact .nst
  case dtt => exact .dtt
  case ins => exact .ins
theorem El.mono {K : Kf} {F F' H H' : Hp} {v : V} {d : D} (le : Le F F') (h : El K F H v d) (hq : ∀ q, v = .ref q → (∃ e, d = .mu e) → H' q = H q ∧ F' q = none) : El K F' H' v d := by
  cases d
  case mu e =>
    obtain ⟨q, rfl, _, ob⟩ := h
    obtain ⟨a, b⟩ := hq q rfl ⟨e, rfl⟩
    exact ⟨q, rfl, b, ob.mono le a⟩
  all_goals exact R.mono le h
theorem OA.mono {K : Kf} {F F' H H' : Hp} (le : Le F F') : ∀ {vs : List V} {ds : List D}, OA K F H vs ds → (∀ q ∈ inn vs ds, H' q = H q ∧ F' q = none) → OA K F' H' vs ds
  | _, _, .nil, _ => .nil
  | v :: vs, d :: ds, .cons h t, hq => by
    refine .cons (h.mono le fun q e1 e2 => ?_) (t.mono le fun q hm => hq q ?_)
    · obtain ⟨e, rfl⟩ := e2
      subst e1
      exact hq q (by unfold inn; exact List.mem_cons_self)
    · unfold inn
      split
      · rename_i h1 h2
        cases h1; cases h2
        exact List.mem_cons_of_mem _ hm
      · rename_i h1 h2
        cases h1; cases h2
        exact hm
      · rename_i h3
        exact absurd rfl (h3 v vs d ds rfl)
theorem OA.inner {K : Kf} {F H : Hp} : ∀ {vs : List V} {ds : List D}, OA K F H vs ds → ∀ q ∈ inn vs ds, F q = none ∧ ∃ o, H q = some o ∧ Mut (some o)
  | _, _, .nil, q, hq => by cases hq
  | v :: vs, d :: ds, .cons h t, q, hq => by
    unfold inn at hq
    split at hq
    · rename_i h1 h2
      cases h1; cases h2
      obtain ⟨q', e, f, ob⟩ := h
      cases e
      rcases List.mem_cons.mp hq with z | z
      · subst z; exact ⟨f, ob.has⟩
      · exact t.inner q z
    · rename_i h1 h2
      cases h1; cases h2
      exact t.inner q hq
    · cases hq
/-- some slot's inner thing -/
def NinI (H : Hp) (σ : L2.St) (ρ : En) (a : Addr) : Prop := ∃ (i : Nat) (b : Bool) (ds : List D) (p : Addr) (vs : List V), ρ[i]? = some (some (.ow b (.nst ds))) ∧ σ[i]? = some (some (.ref p)) ∧ H p = some (.lst vs) ∧ a ∈ inn vs ds
def Inn (K : Kf) (G : Gh) (F H : Hp) (σ : L2.St) (ρ : En) : Prop := ∀ (i : Nat) (b : Bool) (ds : List D) (p : Addr), ρ[i]? = some (some (.ow b (.nst ds))) → σ[i]? = some (some (.ref p)) →
  ∃ vs, H p = some (.lst vs) ∧ OA K F H vs ds ∧ (inn vs ds).Nodup ∧ ∀ q ∈ inn vs ds, (G.H0 q = none ∨ (b = true ∧ q ∈ G.Bx)) ∧ (∀ r ∈ G.Pn, r.1 ≠ q) ∧
    ∀ (j : Nat) (c : Bool) (e : D) (p' : Addr), ρ[j]? = some (some (.ow c e)) → σ[j]? = some (some (.ref p')) → q ≠ p' ∧ (j ≠ i → q ∉ fpI H p' e)
theorem Inn.ni {K : Kf} {G : Gh} {F H : Hp} {σ : L2.St} {ρ : En} (I : Inn K G F H σ ρ) {a : Addr} (h : NinI H σ ρ a) : F a = none ∧ (∃ o, H a = some o ∧ Mut (some o)) ∧ (∀ r ∈ G.Pn, r.1 ≠ a) ∧ ∀ (j : Nat) (c : Bool) (e : D), ρ[j]? = some (some (.ow c e)) → σ[j]? ≠ some (some (.ref a)) := by
  obtain ⟨i, b, ds, p, vs, h1, h2, h3, h4⟩ := h
  obtain ⟨vs', e, oa, _, k⟩ := I i b ds p h1 h2
  rw [h3] at e
  cases e
  obtain ⟨x, y⟩ := oa.inner a h4
  obtain ⟨_, k2, k3⟩ := k a h4
  exact ⟨x, y, k2, fun j c e z z2 => (k3 j c e a z z2).1 rfl⟩
/-- steps that leave all inner things alone -/
theorem Inn.step {K : Kf} {G G' : Gh} {F H F' H' : Hp} {σ σ' : L2.St} {ρ ρ' : En} (I : Inn K G F H σ ρ) (le : Le F F')
    (hs : ∀ (i : Nat) (b : Bool) (ds : List D), ρ'[i]? = some (some (.ow b (.nst ds))) → ρ[i]? = some (some (.ow b (.nst ds))) ∧ σ'[i]? = σ[i]?)
    (hp : ∀ (i : Nat) (b : Bool) (ds : List D) (p : Addr), ρ[i]? = some (some (.ow b (.nst ds))) → σ[i]? = some (some (.ref p)) → H' p = H p)
    (hH : ∀ a, NinI H σ ρ a → H' a = H a ∧ F' a = none ∧ ∀ r ∈ G'.Pn, r.1 ≠ a)
    (h0 : G'.H0 = G.H0) (hb : G'.Bx = G.Bx)
    (ho : ∀ (j : Nat) (c : Bool) (e : D) (a : Addr), ρ'[j]? = some (some (.ow c e)) → σ'[j]? = some (some (.ref a)) → (∃ c0 e0, ρ[j]? = some (some (.ow c0 e0)) ∧ σ[j]? = some (some (.ref a))) ∨ ¬ NinI H σ ρ a) :
    Inn K G' F' H' σ' ρ' := fun i b ds p e1 e2 => by
  obtain ⟨o1, o2⟩ := hs i b ds e1
  rw [o2] at e2
  obtain ⟨vs, a1, oa, nd, k⟩ := I i b ds p o1 e2
  have NI : ∀ q ∈ inn vs ds, NinI H σ ρ q := fun q hq => ⟨i, b, ds, p, vs, o1, e2, a1, hq⟩
  refine ⟨vs, by rw [hp i b ds p o1 e2]; exact a1, oa.mono le fun q hq => ⟨(hH q (NI q hq)).1, (hH q (NI q hq)).2.1⟩, nd, fun q hq => ?_⟩
  obtain ⟨k1, k2, k3⟩ := k q hq
  refine ⟨by rw [h0, hb]; exact k1, (hH q (NI q hq)).2.2, fun j c e p' z1 z2 => ?_⟩
  constructor
  · rcases ho j c e p' z1 z2 with ⟨c0, e0, y1, y2⟩ | n
    · exact (k3 j c0 e0 p' y1 y2).1
    · exact fun z => n (z ▸ NI q hq)
  · intro ji
    cases e
    case nst es =>
      obtain ⟨y1, y2⟩ := hs j c es z1
      rw [y2] at z2
      have := (k3 j c _ p' y1 z2).2 ji
      unfold fpI at this ⊢
      rw [hp j c es p' y1 z2]
      exact this
    all_goals exact fun z => by cases z
/-- slots are set, to nothing nested -/
theorem Inn.set {K : Kf} {G : Gh} {F H : Hp} {σ : L2.St} {ρ : En} (I : Inn K G F H σ ρ) {i : Nat} {x : Option V} {dv : Option DV} (hn : ∀ b ds, dv ≠ some (.ow b (.nst ds))) (hx : ∀ c e a, dv = some (.ow c e) → x = some (.ref a) → ¬ NinI H σ ρ a) : Inn K G F H (σ.set i x) (ρ.set i dv) := by
  have gs : ∀ {α : Type} {l : List α} {j : Nat} {x y : α}, (l.set i x)[j]? = some y → (j = i ∧ y = x) ∨ (j ≠ i ∧ l[j]? = some y) := fun {α l j x y} h => by
    by_cases e : j = i
    · subst e
      by_cases hl : j < l.length
      · rw [List.getElem?_set_self hl] at h; cases h; exact .inl ⟨rfl, rfl⟩
      · rw [List.getElem?_eq_none (by simpa using hl)] at h; cases h
    · rw [List.getElem?_set_ne (Ne.symm e)] at h; exact .inr ⟨e, h⟩
  refine I.step (Same.refl _) (fun j b ds e => ?_) (fun _ _ _ _ _ _ => rfl) (fun a ha => ⟨rfl, (I.ni ha).1, (I.ni ha).2.2.1⟩) rfl rfl fun j c e a e1 e2 => ?_
  · rcases gs e with ⟨_, z⟩ | ⟨n, z⟩
    · exact absurd z.symm (hn b ds)
    · exact ⟨z, List.getElem?_set_ne (Ne.symm n)⟩
  · rcases gs e1 with ⟨z1, z2⟩ | ⟨n, z⟩
    · subst z1
      rcases gs e2 with ⟨_, z3⟩ | ⟨n, _⟩
      · exact .inr (hx c e a z2.symm z3.symm)
      · exact absurd rfl n
    · rw [List.getElem?_set_ne (Ne.symm n)] at e2
      exact .inl ⟨c, e, z, e2⟩
/-- a slot is no more -/
theorem Inn.drop {K : Kf} {G : Gh} {F H : Hp} {σ : L2.St} {ρ : En} (I : Inn K G F H σ ρ) (i : Nat) : Inn K G F H σ (ρ.set i none) := by
  have g : ∀ {j : Nat} {dv : DV}, (ρ.set i none)[j]? = some (some dv) → ρ[j]? = some (some dv) := fun {j dv} h => by
    by_cases e : j = i
    · subst e
      by_cases hl : j < ρ.length
      · rw [List.getElem?_set_self hl] at h; cases h
      · rw [List.getElem?_eq_none (by simpa using hl)] at h; cases h
    · rw [List.getElem?_set_ne (Ne.symm e)] at h; exact h
  exact I.step (Same.refl _) (fun j b ds e => ⟨g e, rfl⟩) (fun _ _ _ _ _ _ => rfl) (fun a ha => ⟨rfl, (I.ni ha).1, (I.ni ha).2.2.1⟩) rfl rfl fun j c e a e1 e2 => .inl ⟨c, e, g e1, e2⟩
/-- what is nested, handed over -/
def Nst (K : Kf) (H0 F H : Hp) (p : Addr) : D → Prop
  | .nst ds => ∃ vs, H p = some (.lst vs) ∧ OA K F H vs ds ∧ (inn vs ds).Nodup ∧ p ∉ inn vs ds ∧ ∀ q ∈ inn vs ds, H0 q = none
  | _ => True
theorem Nst.mono {K : Kf} {H0 F H H' : Hp} {p : Addr} {d : D} (h : Nst K H0 F H p d) (e : H' p = H p) (hq : ∀ q, F q = none → H' q = H q) : Nst K H0 F H' p d := by
  cases d
  case nst ds =>
    obtain ⟨vs, h1, h2, h3, h4⟩ := h
    exact ⟨vs, by rw [e]; exact h1, h2.mono (Same.refl _) fun q hm => ⟨hq q (h2.inner q hm).1, (h2.inner q hm).1⟩, h3, h4⟩
  all_goals trivial
theorem Nst.plain {K : Kf} {H0 F H : Hp} {p : Addr} {d : D} (h : isN d = false) : Nst K H0 F H p d := by
  cases d <;> first | trivial | cases h
def SlotOk (K : Kf) (G : Gh) (F H : Hp) (i : Nat) (v : V) : DV → Prop
  | .fz d => R K F v d
  | .ow b d => ∃ p, v = .ref p ∧ F p = none ∧ Ob K F H p d ∧ (b = false → G.H0 p = none) ∧ (b = true → (i, p) ∈ G.B)
structure Rel (K : Kf) (G : Gh) (F H : Hp) (σ : L2.St) (ρ : En) : Prop where
  sub : Sub F H
  len : σ.length = ρ.length
  slot : ∀ (i : Nat) (dv : DV), ρ[i]? = some (some dv) → ∃ v, σ[i]? = some (some v) ∧ SlotOk K G F H i v dv
  dis : ∀ (i j : Nat) (b c : Bool) (d e : D) (p : Addr), i ≠ j → ρ[i]? = some (some (.ow b d)) → ρ[j]? = some (some (.ow c e)) → σ[i]? = some (some (.ref p)) → σ[j]? = some (some (.ref p)) → False
  keep : ∀ a o, G.H0 a = some o → a ∉ G.X → H a = some o ∨ ∃ ob, H a = some (.frz ob o) ∧ (a, HO.frz ob o) ∈ G.Lk
  grow : ∀ a o, F a = some o → Gw G.F0 G.H0 a o
  low : Le G.F0 F
  bor : ∀ q ∈ G.B, ∃ d, ρ[q.1]? = some (some (.ow true d)) ∧ σ[q.1]? = some (some (.ref q.2))
  lk : ∀ q ∈ G.Lk, H q.1 = some q.2 ∧ F q.1 ≠ none
  pn : ∀ q ∈ G.Pn, H q.1 = some q.2.1 ∧ F q.1 = none ∧ ∀ (i : Nat) (b : Bool) (d : D), ρ[i]? = some (some (.ow b d)) → σ[i]? ≠ some (some (.ref q.1))
  bx : ∀ q ∈ G.Bx, G.H0 q ≠ none ∧ F q = none ∧ ∃ o, H q = some o ∧ Mut (some o)
  nn : Inn K G F H σ ρ
theorem Ob.has {K : Kf} {F H : Hp} {p : Addr} {d : D} (h : Ob K F H p d) : ∃ o, H p = some o ∧ Mut (some o) := by
  cases d <;> first | exact h.elim | (obtain ⟨vs, e, _⟩ := h; exact ⟨_, e, trivial⟩) | (obtain ⟨vs, e⟩ := h; exact ⟨_, e, trivial⟩) | (obtain ⟨C, dx, vs, _, e, _⟩ := h; exact ⟨_, e, trivial⟩)
theorem Ob.mono {K : Kf} {F F' H H' : Hp} {p : Addr} {d : D} (le : Le F F') (e : H' p = H p) (h : Ob K F H p d) : Ob K F' H' p d := by
  cases d with
  | lst ds => obtain ⟨vs, a, r⟩ := h; exact ⟨vs, by rw [e]; exact a, r.mono le⟩
  | dic ds => obtain ⟨vs, a, r⟩ := h; exact ⟨vs, by rw [e]; exact a, r.mono le⟩
  | dit ds => obtain ⟨vs, a, r⟩ := h; exact ⟨vs, by rw [e]; exact a, r.mono le⟩
  | nst ds => obtain ⟨vs, a⟩ := h; exact ⟨vs, by rw [e]; exact a⟩
  | dtt ks => obtain ⟨vs, a, r⟩ := h; exact ⟨vs, by rw [e]; exact a, r.mono le⟩
  | ins c fs => exact ObI.mono le e h
  | _ => exact h.elim
theorem Ob.top {K : Kf} {F H : Hp} {p : Addr} {d : D} (h : Ob K F H p d) : R1 K F H (.ref p) d := by
  cases d with
  | lst ds => obtain ⟨vs, a, r⟩ := h; exact ⟨p, vs, rfl, a, r⟩
  | dic ds => obtain ⟨vs, a, r⟩ := h; exact ⟨p, vs, rfl, .inl a, r⟩
  | dit ds => obtain ⟨vs, a, r⟩ := h; exact ⟨p, vs, rfl, .inl a, r⟩
  | nst ds => exact ⟨p, rfl⟩
  | dtt ks => exact ⟨p, rfl⟩
  | ins c fs => exact ⟨p, rfl⟩
  | _ => exact h.elim
section
variable {K : Kf} {G : Gh} {F H : Hp} {σ : L2.St} {ρ : En}
/-- what may change stands there, and may change -/
theorem Rel.xm (I : Rel K G F H σ ρ) {a : Addr} (hb : a ∈ G.X) : ∃ o, H a = some o ∧ Mut (some o) := by
  rcases List.mem_append.mp hb with hb | hb
  · obtain ⟨p, hp, e⟩ := List.mem_map.mp hb
    obtain ⟨d, h1, h2⟩ := I.bor p hp
    obtain ⟨v, h3, h4⟩ := I.slot _ _ h1
    obtain ⟨p', e1, _, ob, _⟩ := h4
    rw [h2] at h3
    cases h3
    cases e1
    rw [← e]
    exact ob.has
  · exact (I.bx a hb).2.2
theorem Rel.fresh (I : Rel K G F H σ ρ) {a : Addr} (h : H a = none) : G.H0 a = none := by
  cases q : G.H0 a with
  | none => rfl
  | some o =>
    by_cases hb : a ∈ G.X
    · obtain ⟨o', e2, _⟩ := I.xm hb
      rw [h] at e2
      cases e2
    · rcases I.keep a o q hb with z | ⟨ob, z, _⟩ <;> rw [h] at z <;> cases z
/-- what a slot of one's own has nested -/
theorem Rel.nst (I : Rel K G F H σ ρ) {i : Nat} {d : D} {p : Addr} (hi : ρ[i]? = some (some (.ow false d))) (hs : σ[i]? = some (some (.ref p))) : Nst K G.H0 F H p d := by
  cases d
  case nst ds =>
    obtain ⟨vs, h1, h2, h3, h4⟩ := I.nn i false ds p hi hs
    refine ⟨vs, h1, h2, h3, fun hp => ((h4 p hp).2.2 i false _ p hi hs).1 rfl, fun q hq => ?_⟩
    rcases (h4 q hq).1 with z | ⟨z, _⟩
    · exact z
    · cases z
  all_goals trivial
theorem Rel.nin (I : Rel K G F H σ ρ) {a : Addr} (h : H a = none) : ¬ NinI H σ ρ a := fun n => by
  obtain ⟨_, ⟨o, e, _⟩, _⟩ := I.nn.ni n
  rw [h] at e
  cases e
/-- new things alone -/
structure Nw (F H F' H' : Hp) : Prop where
  sub : Sub F' H'
  le : Le F F'
  new : ∀ a o, F' a = some o → Gw F H a o
  same : Same H H'
theorem Nw.refl (s : Sub F H) : Nw F H F H := ⟨s, Same.refl _, fun _ _ h => .inl h, Same.refl _⟩
theorem Nw.trans {F1 H1 F2 H2 : Hp} (a : Nw F H F1 H1) (b : Nw F1 H1 F2 H2) : Nw F H F2 H2 :=
  ⟨b.sub, a.le.trans b.le, fun x o h => by
    rcases b.new x o h with h | h | ⟨t, h⟩
    · exact a.new x o h
    · exact .inr (.inl (a.same.free h))
    · cases q : H x with
      | none => exact .inr (.inl q)
      | some o' => exact .inr (.inr ⟨t, by rw [a.same x o' q] at h; rw [q]; exact h⟩), a.same.trans b.same⟩
theorem Nw.noF {F' H' : Hp} (n : Nw F H F' H') {a : Addr} {o : HO} (h1 : F a = none) (h2 : H a = some o) (h3 : Mut (some o)) : F' a = none := by
  cases q : F' a with
  | none => rfl
  | some x =>
    rcases n.new a x q with z | z | ⟨⟨vs, hv⟩, z⟩
    · rw [h1] at z; cases z
    · rw [h2] at z; cases z
    · rw [h2, hv] at z; cases z; exact h3.elim
theorem upd_le {o : HO} {p : Addr} (h : F p = none) : Le F (upd F p o) := fun b x e => by
  rw [upd_ne (ne_of_none e h)]; exact e
theorem Nw.new_ (s : Sub F H) {p : Addr} {o : HO} (h : H p = none) : Nw F H (upd F p o) (upd H p o) := by
  refine ⟨fun a x e => ?_, upd_le (s.free h), fun a x e => ?_, upd_le h⟩
  · by_cases q : a = p
    · subst q; rw [upd_same] at e; cases e; exact .inl upd_same
    · rw [upd_ne q] at e ⊢; exact s a x e
  · by_cases q : a = p
    · subst q; exact .inr (.inl h)
    · rw [upd_ne q] at e; exact .inl e
/-- new in the heap, not frozen -/
theorem Nw.lay (s : Sub F H) {p : Addr} {o : HO} (h : H p = none) : Nw F H F (upd H p o) := by
  refine ⟨fun a x e => ?_, Same.refl _, fun a x e => .inl e, upd_le h⟩
  have q : a ≠ p := fun z => by subst z; exact s.ne e h
  rw [upd_ne q]; exact s a x e
theorem Rel.nw {F' H' : Hp} (I : Rel K G F H σ ρ) (n : Nw F H F' H') : Rel K G F' H' σ ρ := by
  refine ⟨n.sub, I.len, fun i dv e => ?_, I.dis, fun a o e hb => ?_, fun a o e => ?_, I.low.trans n.le, I.bor, fun q hq => ⟨n.same _ _ (I.lk q hq).1, fun z => (I.lk q hq).2 (n.le.free z)⟩, fun q hq => ?_, fun q hq => ?_, ?_⟩
  · obtain ⟨v, h1, h2⟩ := I.slot i dv e
    refine ⟨v, h1, ?_⟩
    cases dv with
    | fz d => exact R.mono n.le h2
    | ow b d =>
      obtain ⟨p, e1, fp, ob, h3, h4⟩ := h2
      obtain ⟨o, e2, _⟩ := ob.has
      refine ⟨p, e1, ?_, ob.mono n.le (by rw [n.same _ _ e2, e2]), h3, h4⟩
      cases q : F' p with
      | none => rfl
      | some o' =>
        rcases n.new p o' q with z | z | ⟨⟨vs, hv⟩, z⟩
        · rw [fp] at z; cases z
        · rw [e2] at z; cases z
        · obtain ⟨o3, e3, m3⟩ := ob.has
          rw [e3, hv] at z; cases z; exact m3.elim
  · rcases I.keep a o e hb with z | ⟨ob, z, h⟩
    · exact .inl (n.same _ _ z)
    · exact .inr ⟨ob, n.same _ _ z, h⟩
  · rcases n.new a o e with z | z | ⟨⟨vs, hv⟩, z⟩
    · exact I.grow a o z
    · exact .inr (.inl (I.fresh z))
    · cases q : G.H0 a with
      | none => exact .inr (.inl q)
      | some o2 =>
        refine .inr (.inr ⟨⟨vs, hv⟩, ?_⟩)
        by_cases hb : a ∈ G.X
        · obtain ⟨o', e2, m2⟩ := I.xm hb
          rw [z, hv] at e2
          cases e2
          exact m2.elim
        · rcases I.keep a o2 q hb with z2 | ⟨ob, z2, _⟩
          · rw [z] at z2; cases z2; exact q
          · rw [z, hv] at z2; cases z2
  · obtain ⟨h1, h2, h3⟩ := I.pn q hq
    refine ⟨n.same _ _ h1, ?_, h3⟩
    cases e : F' q.1 with
    | none => rfl
    | some o =>
      rcases n.new _ _ e with z | z | ⟨⟨vs, hv⟩, z⟩
      · rw [h2] at z; cases z
      · rw [h1] at z; cases z
      · rw [h1, hv] at z
        have m := q.2.2
        injection z with z
        rw [z] at m
        exact m.elim
  · obtain ⟨h1, h2, o, h3, h4⟩ := I.bx q hq
    exact ⟨h1, n.noF h2 h3 h4, o, n.same _ _ h3, h4⟩
  · refine I.nn.step n.le (fun i b ds e => ⟨e, rfl⟩) (fun i b ds p e1 e2 => ?_) (fun a ha => ?_) rfl rfl fun j c e a e1 e2 => .inl ⟨c, e, e1, e2⟩
    · obtain ⟨vs, h, _⟩ := I.nn i b ds p e1 e2
      rw [n.same _ _ h, h]
    · obtain ⟨h1, ⟨o, h2, h3⟩, h4, _⟩ := I.nn.ni ha
      exact ⟨by rw [n.same _ _ h2, h2], n.noF h1 h2 h3, h4⟩
end

/-! ### what an operation makes -/
inductive O1 where
  | val (d : D) | newL (ds : List D) | newT (ds : List D) | newP (ds : List D) | newK (kv : List (D × D)) | newI (kv : List (D × D))
def O1.d : O1 → D
  | .val d => d
  | .newL ds => .lst ds
  | .newT ds => .tup ds
  | .newP ds => .tpl ds
  | .newK kv => .dic kv
  | .newI kv => .dit kv
def O1Ok (K : Kf) (F H : Hp) (Q : VK) : O1 → Prop
  | .val d => ∀ v, R K F v d → Q v H
  | .newL ds => ∀ p vs, H p = none → RA K F vs ds → Q (.ref p) (upd H p (.lst vs))
  | .newT ds => ∀ p vs, H p = none → RA K F vs ds → Q (.ref p) (upd H p (.tup vs))
  | .newP ds => ∀ p ob vs, H p = none → ob.dict = none → RA K F vs ds → Q (.ref p) (upd H p (.frz ob (.tup vs)))
  | .newK ds => ∀ p vs, H p = none → RK K F vs ds → Q (.ref p) (upd H p (.dK vs))
  | .newI ds => ∀ p vs, H p = none → RT K F vs ds → Q (.ref p) (upd H p (.dT vs))
theorem O1Ok.fz {K : Kf} {G : Gh} {F H : Hp} {σ : L2.St} {ρ : En} {Q : VK} {o : O1} (I : Rel K G F H σ ρ)
    (h : ∀ F' H' v, Le F F' → Rel K G F' H' σ ρ → R K F' v o.d → Q v H') : O1Ok K F H Q o := by
  cases o with
  | val d => exact fun v r => h F H v (Same.refl _) I r
  | newL ds => exact fun p vs hp r => h _ _ _ (Nw.new_ I.sub hp).le (I.nw (Nw.new_ I.sub hp)) (.lst upd_same (r.mono (Nw.new_ I.sub hp).le))
  | newT ds => exact fun p vs hp r => h _ _ _ (Nw.new_ I.sub hp).le (I.nw (Nw.new_ I.sub hp)) (.tup upd_same (r.mono (Nw.new_ I.sub hp).le))
  | newP ds => exact fun p ob vs hp n r => h _ _ _ (Nw.new_ I.sub hp).le (I.nw (Nw.new_ I.sub hp)) (.tpl upd_same n (r.mono (Nw.new_ I.sub hp).le))
  | newK ds => exact fun p vs hp r => h _ _ _ (Nw.new_ I.sub hp).le (I.nw (Nw.new_ I.sub hp)) (.dic upd_same (r.mono (Nw.new_ I.sub hp).le))
  | newI ds => exact fun p vs hp r => h _ _ _ (Nw.new_ I.sub hp).le (I.nw (Nw.new_ I.sub hp)) (.dit upd_same (r.mono (Nw.new_ I.sub hp).le))

/-! ### readings by data -/
inductive RV where
  | fz (d : D) | sl (i : Nat)
def RVk (K : Kf) (F : Hp) (σ : L2.St) (v : V) : RV → Prop
  | .fz d => R K F v d
  | .sl i => σ[i]? = some (some v)
def vw (ρ : En) : RV → Option D
  | .fz d => some d
  | .sl i => match ρ[i]? with
    | some (some (.ow _ d)) => some d
    | _ => none
theorem RVk.mono {K : Kf} {F F' : Hp} (h : Le F F') {σ : L2.St} {v : V} {r : RV} (k : RVk K F σ v r) : RVk K F' σ v r := by
  cases r with
  | fz d => exact R.mono h k
  | sl i => exact k
theorem Rel.vw {K : Kf} {G : Gh} {F H : Hp} {σ : L2.St} {ρ : En} (I : Rel K G F H σ ρ) {v : V} {r : RV} {d : D} (k : RVk K F σ v r) (h : vw ρ r = some d) : R1 K F H v d := by
  cases r with
  | fz e => cases h; exact R.top I.sub k
  | sl i =>
    unfold DL.vw at h
    simp only at h
    split at h
    · rename_i b e he
      cases h
      obtain ⟨v', h1, p, e1, _, ob, _⟩ := I.slot i _ he
      rw [show σ[i]? = some (some v) from k] at h1
      cases h1
      subst e1
      exact ob.top
    · cases h
abbrev ME := En → Option (RV × En)
abbrev MO := En → Option (O1 × En)
abbrev MT := En → Option (Bool × En)
abbrev MA := En → Option (List RV × En)
def tE (K : Kf) (m : ME) : TE := fun σ H Q => ∃ G F ρ, Rel K G F H σ ρ ∧ ∃ r ρ', m ρ = some (r, ρ') ∧ ∀ F' H' v, Le F F' → Rel K G F' H' σ ρ' → RVk K F' σ v r → Q v H'
def tO (K : Kf) (m : MO) : TE := fun σ H Q => ∃ G F ρ, Rel K G F H σ ρ ∧ ∃ o ρ', m ρ = some (o, ρ') ∧ ∀ F' H', Le F F' → Rel K G F' H' σ ρ' → O1Ok K F' H' Q o
def tT (K : Kf) (m : MT) : TT := fun σ H Q => ∃ G F ρ, Rel K G F H σ ρ ∧ ∃ b ρ', m ρ = some (b, ρ') ∧ ∀ F' H', Le F F' → Rel K G F' H' σ ρ' → Q b H'
inductive RVs (K : Kf) (F : Hp) (σ : L2.St) : List V → List RV → Prop
  | nil : RVs K F σ [] []
  | cons {v : V} {vs : List V} {r : RV} {rs : List RV} : RVk K F σ v r → RVs K F σ vs rs → RVs K F σ (v :: vs) (r :: rs)
def tA (K : Kf) (m : MA) : TA := fun σ H Q => ∃ G F ρ, Rel K G F H σ ρ ∧ ∃ rs ρ', m ρ = some (rs, ρ') ∧ ∀ F' H' vs, Le F F' → Rel K G F' H' σ ρ' → RVs K F' σ vs rs → Q vs H'
theorem RVs.mono {K : Kf} {F F' : Hp} (h : Le F F') {σ : L2.St} : ∀ {vs : List V} {rs : List RV}, RVs K F σ vs rs → RVs K F' σ vs rs
  | _, _, .nil => .nil
  | _, _, .cons r t => .cons (r.mono h) (RVs.mono h t)

theorem peImp {X : Cx} {e : Expr} {t t' : TE} (h : PE X e t) (i : ∀ σ H Q, t' σ H Q → t σ H Q) : PE X e t' := ⟨fun pins s σ H Q I hw => h.run pins s σ H Q I (i _ _ _ hw)⟩
theorem ptImp {X : Cx} {e : Expr} {t t' : TT} (h : PT X e t) (i : ∀ σ H Q, t' σ H Q → t σ H Q) : PT X e t' := ⟨fun pins s σ H Q I hw => h.run pins s σ H Q I (i _ _ _ hw)⟩
theorem paImp {X : Cx} {e : List Expr} {t t' : TA} (h : PA X e t) (i : ∀ σ H Q, t' σ H Q → t σ H Q) : PA X e t' := ⟨fun pos pins s σ H Q I hw => h.run pos pins s σ H Q I (i _ _ _ hw)⟩
theorem psImp {X : Cx} {e : Stmt} {t t' : TS} (h : PS X e t) (i : ∀ D σ H, t' D σ H → t D σ H) : PS X e t' := ⟨fun pins s σ H D I hw => h.run pins s σ H D I (i _ _ _ hw)⟩
theorem pssImp {X : Cx} {e : List Stmt} {t t' : TS} (h : PSs X e t) (i : ∀ D σ H, t' D σ H → t D σ H) : PSs X e t' := ⟨fun pins s σ H D I hw => h.run pins s σ H D I (i _ _ _ hw)⟩
theorem peOr {X : Cx} {e : Expr} {t t' : TE} (h : PE X e t) (h' : PE X e t') : PE X e (fun σ H Q => t σ H Q ∨ t' σ H Q) := ⟨fun pins s σ H Q I hw => hw.elim (h.run pins s σ H Q I) (h'.run pins s σ H Q I)⟩
theorem ptOr {X : Cx} {e : Expr} {t t' : TT} (h : PT X e t) (h' : PT X e t') : PT X e (fun σ H Q => t σ H Q ∨ t' σ H Q) := ⟨fun pins s σ H Q I hw => hw.elim (h.run pins s σ H Q I) (h'.run pins s σ H Q I)⟩
theorem psOr {X : Cx} {e : Stmt} {t t' : TS} (h : PS X e t) (h' : PS X e t') : PS X e (fun D σ H => t D σ H ∨ t' D σ H) := ⟨fun pins s σ H D I hw => hw.elim (h.run pins s σ H D I) (h'.run pins s σ H D I)⟩

abbrev DE (X : Cx) (e : Expr) (m : ME) : Prop := PE X e (tE X.K m)
abbrev DO (X : Cx) (e : Expr) (m : MO) : Prop := PE X e (tO X.K m)
abbrev DT (X : Cx) (e : Expr) (m : MT) : Prop := PT X e (tT X.K m)
abbrev DA (X : Cx) (es : List Expr) (m : MA) : Prop := PA X es (tA X.K m)

/-- what is made is frozen -/
def fzO (m : MO) : ME := fun ρ => (m ρ).bind fun p => some (.fz p.1.d, p.2)
theorem DO.fz {X : Cx} {e : Expr} {m : MO} (h : DO X e m) : DE X e (fzO m) := peImp h fun σ H Q hw => by
  obtain ⟨G, F, ρ, I, r, ρ', e, k⟩ := hw
  obtain ⟨⟨o, ρ1⟩, e1, e2⟩ := Option.bind_eq_some_iff.mp e
  cases e2
  exact ⟨G, F, ρ, I, o, _, e1, fun F' H' le I' => O1Ok.fz I' fun F2 H2 v le2 I2 r2 => k F2 H2 v (le.trans le2) I2 r2⟩

/-! ### names, constants -/
def mVar (i : Nat) : ME := fun ρ => match ρ[i]? with
  | some (some (.fz d)) => some (.fz d, ρ)
  | some (some (.ow _ _)) => some (.sl i, ρ)
  | _ => none
theorem tVar_of {K : Kf} {i : Nat} {σ : L2.St} {H : Hp} {Q : VK} (h : tE K (mVar i) σ H Q) : tVar i σ H Q := by
  obtain ⟨G, F, ρ, I, r, ρ', e, k⟩ := h
  unfold mVar at e
  split at e
  · rename_i d he
    cases e
    obtain ⟨v, h1, h2⟩ := I.slot i _ he
    exact ⟨v, h1, k F H v (Same.refl _) I h2⟩
  · rename_i b d he
    cases e
    obtain ⟨v, h1, h2⟩ := I.slot i _ he
    exact ⟨v, h1, k F H v (Same.refl _) I h1⟩
  · cases e
theorem de_var {X : Cx} (i : Nat) {x : Str} {pos : Pos} (hN : X.N[i]? = some x := by rfl) (hv : Vis X.env.scope x := by first | exact Or.inl rfl | exact Or.inr (Or.inl rfl) | exact Or.inr (Or.inr rfl)) (hd : (x == ("__debug__" : Str)) = false := by decide)
    (hcd : (x == ("__classdict__" : Str)) = false := by decide) : DE X (.Name x pos) (mVar i) := peImp (pe_var hN hv hd hcd) fun _ _ _ => tVar_of
def mC (d : D) : ME := fun ρ => some (.fz d, ρ)
theorem tC_of {K : Kf} {d : D} {v : V} (hr : ∀ F, R K F v d) {σ : L2.St} {H : Hp} {Q : VK} (h : tE K (mC d) σ H Q) : tC v σ H Q := by
  obtain ⟨G, F, ρ, I, r, ρ', e, k⟩ := h
  cases e
  exact k F H v (Same.refl _) I (hr F)
section
variable {X : Cx}
theorem de_int {i j pos} : DE X (.Constant (.int i) j pos) (mC (.int i)) := peImp pe_int fun _ _ _ => tC_of fun _ => .int i
theorem de_bl {b j pos} : DE X (.Constant (.bool b) j pos) (mC (.bl b)) := peImp pe_bl fun _ _ _ => tC_of fun _ => .bl b
theorem de_non {j pos} : DE X (.Constant .none j pos) (mC .non) := peImp pe_non fun _ _ _ => tC_of fun _ => .non
theorem de_str {x j pos} : DE X (.Constant (.str x) j pos) (mC (.str x)) := peImp pe_str fun _ _ _ => tC_of fun _ => .str x
end
/-! ### two operands -/
def OpD (K : Kf) (r : R2) (f : D → D → Option O1) : Prop := ∀ F H x y d e o Q, Sub F H → R1 K F H x d → R1 K F H y e → f d e = some o → O1Ok K F H Q o → r x y H Q
def mOp (f : D → D → Option O1) (ma mb : ME) : MO := fun ρ => (ma ρ).bind fun p => (mb p.2).bind fun q => (vw q.2 p.1).bind fun d => (vw q.2 q.1).bind fun e => (f d e).bind fun o => some (o, q.2)
theorem tOp_of {K : Kf} {r : R2} {f : D → D → Option O1} (h : OpD K r f) {ma mb : ME} {σ : L2.St} {H : Hp} {Q : VK} (w : tO K (mOp f ma mb) σ H Q) : tOp r (tE K ma) (tE K mb) σ H Q := by
  obtain ⟨G, F, ρ, I, o, ρ', e, k⟩ := w
  obtain ⟨⟨r1, ρ1⟩, e1, e⟩ := Option.bind_eq_some_iff.mp e
  obtain ⟨⟨r2, ρ2⟩, e2, e⟩ := Option.bind_eq_some_iff.mp e
  obtain ⟨d1, e3, e⟩ := Option.bind_eq_some_iff.mp e
  obtain ⟨d2, e4, e⟩ := Option.bind_eq_some_iff.mp e
  obtain ⟨o', e5, e⟩ := Option.bind_eq_some_iff.mp e
  cases e
  refine ⟨G, F, ρ, I, r1, ρ1, e1, fun F1 H1 v1 l1 I1 k1 => ⟨G, F1, ρ1, I1, r2, _, e2, fun F2 H2 v2 l2 I2 k2 => ?_⟩⟩
  exact h F2 H2 v1 v2 d1 d2 o Q I2.sub (I2.vw (k1.mono l2) e3) (I2.vw k2 e4) e5 (k F2 H2 (l1.trans l2) I2)
theorem OpD.or {K : Kf} {r r' : R2} {f f' : D → D → Option O1} (h : OpD K r f) (h' : OpD K r' f') : OpD K (fun x y H Q => r x y H Q ∨ r' x y H Q) (fun d e => f d e <|> f' d e) := fun F H x y d e o Q s a b eo k => by
  dsimp only at eo
  cases q : f d e with
  | some o' =>
    rw [q] at eo
    have : o' = o := by simpa using eo
    subst this
    exact .inl (h F H x y d e o' Q s a b q k)
  | none =>
    rw [q] at eo
    exact .inr (h' F H x y d e o Q s a b (by simpa using eo) k)
def mUn (f : D → Option O1) (ma : ME) : MO := fun ρ => (ma ρ).bind fun p => (vw p.2 p.1).bind fun d => (f d).bind fun o => some (o, p.2)
def UnD (K : Kf) (r : V → Hp → VK → Prop) (f : D → Option O1) : Prop := ∀ F H x d o Q, Sub F H → R1 K F H x d → f d = some o → O1Ok K F H Q o → r x H Q
theorem tUn_of {K : Kf} {r : V → Hp → VK → Prop} {f : D → Option O1} (h : UnD K r f) {ma : ME} {σ : L2.St} {H : Hp} {Q : VK} (w : tO K (mUn f ma) σ H Q) : tUn r (tE K ma) σ H Q := by
  obtain ⟨G, F, ρ, I, o, ρ', e, k⟩ := w
  obtain ⟨⟨r1, ρ1⟩, e1, e⟩ := Option.bind_eq_some_iff.mp e
  obtain ⟨d1, e3, e⟩ := Option.bind_eq_some_iff.mp e
  obtain ⟨o', e5, e⟩ := Option.bind_eq_some_iff.mp e
  cases e
  exact ⟨G, F, ρ, I, r1, _, e1, fun F1 H1 v1 l1 I1 k1 => h F1 H1 v1 d1 o Q I1.sub (I1.vw k1 e3) e5 (k F1 H1 l1 I1)⟩
/-! ### arguments -/
def mNil : MA := fun ρ => some ([], ρ)
def mCons (m : ME) (ms : MA) : MA := fun ρ => (m ρ).bind fun p => (ms p.2).bind fun q => some (p.1 :: q.1, q.2)
section
variable {X : Cx}
theorem da_nil : DA X [] mNil := paImp pa_nil fun σ H Q ⟨G, F, ρ, I, r, ρ', e, k⟩ => by
  cases e
  exact k F H [] (Same.refl _) I .nil
theorem da_cons {e : Expr} {es : List Expr} {m : ME} {ms : MA} (h : DE X e m) (hs : DA X es ms) (hst : starEach (e :: es) X.env = (false, eval e X.env) :: starEach es X.env := by rfl) : DA X (e :: es) (mCons m ms) :=
  paImp (pa_cons h hs hst) fun σ H Q ⟨G, F, ρ, I, r, ρ', e, k⟩ => by
    obtain ⟨⟨r1, ρ1⟩, e1, e⟩ := Option.bind_eq_some_iff.mp e
    obtain ⟨⟨r2, ρ2⟩, e2, e⟩ := Option.bind_eq_some_iff.mp e
    cases e
    exact ⟨G, F, ρ, I, r1, ρ1, e1, fun F1 H1 v1 l1 I1 k1 => ⟨G, F1, ρ1, I1, r2, _, e2, fun F2 H2 vs l2 I2 k2 => k F2 H2 _ (l1.trans l2) I2 (.cons (k1.mono l2) k2)⟩⟩
end
/-- the arguments as data -/
def vws (ρ : En) : List RV → Option (List D)
  | [] => some []
  | r :: rs => (vw ρ r).bind fun d => (vws ρ rs).bind fun ds => some (d :: ds)
inductive R1s (K : Kf) (F H : Hp) : List V → List D → Prop
  | nil : R1s K F H [] []
  | cons {v : V} {vs : List V} {d : D} {ds : List D} : R1 K F H v d → R1s K F H vs ds → R1s K F H (v :: vs) (d :: ds)
theorem Rel.vws {K : Kf} {G : Gh} {F H : Hp} {σ : L2.St} {ρ : En} (I : Rel K G F H σ ρ) : ∀ {vs : List V} {rs : List RV} {ds : List D}, RVs K F σ vs rs → vws ρ rs = some ds → R1s K F H vs ds
  | _, _, _, .nil, h => by cases h; exact .nil
  | _, _, _, .cons r t, h => by
    obtain ⟨d, e1, e⟩ := Option.bind_eq_some_iff.mp h
    obtain ⟨ds, e2, e⟩ := Option.bind_eq_some_iff.mp e
    cases e
    exact .cons (I.vw r e1) (I.vws t e2)
/-! ### a builtin's call -/
def CallD (K : Kf) (r : List V → Hp → VK → Prop) (f : List D → Option O1) : Prop := ∀ F H xs ds o Q, Sub F H → R1s K F H xs ds → f ds = some o → O1Ok K F H Q o → r xs H Q
def mCB (f : List D → Option O1) (ma : MA) : MO := fun ρ => (ma ρ).bind fun p => (vws p.2 p.1).bind fun ds => (f ds).bind fun o => some (o, p.2)
theorem tCB_of {K : Kf} {r : List V → Hp → VK → Prop} {f : List D → Option O1} (h : CallD K r f) {ma : MA} {σ : L2.St} {H : Hp} {Q : VK} (w : tO K (mCB f ma) σ H Q) : tCB r (tA K ma) σ H Q := by
  obtain ⟨G, F, ρ, I, o, ρ', e, k⟩ := w
  obtain ⟨⟨r1, ρ1⟩, e1, e⟩ := Option.bind_eq_some_iff.mp e
  obtain ⟨d1, e3, e⟩ := Option.bind_eq_some_iff.mp e
  obtain ⟨o', e5, e⟩ := Option.bind_eq_some_iff.mp e
  cases e
  exact ⟨G, F, ρ, I, r1, _, e1, fun F1 H1 v1 l1 I1 k1 => h F1 H1 v1 d1 o Q I1.sub (I1.vws k1 e3) e5 (k F1 H1 l1 I1)⟩
theorem CallD.or {K : Kf} {r r' : List V → Hp → VK → Prop} {f f' : List D → Option O1} (h : CallD K r f) (h' : CallD K r' f') : CallD K (fun x H Q => r x H Q ∨ r' x H Q) (fun d => f d <|> f' d) := fun F H x d o Q s a eo k => by
  dsimp only at eo
  cases q : f d with
  | some o' =>
    rw [q] at eo
    have : o' = o := by simpa using eo
    subst this
    exact .inl (h F H x d o' Q s a q k)
  | none =>
    rw [q] at eo
    exact .inr (h' F H x d o Q s a (by simpa using eo) k)
end DL

set_option Elab.async false
set_option linter.all false
set_option maxRecDepth 100000
set_option maxHeartbeats 4000000
namespace DL
open PySem PySem.Spec PyProof.Rows L2

/-! ### slots -/
theorem get_set {α : Type} {l : List α} {i j : Nat} {x y : α} (h : (l.set i x)[j]? = some y) : (j = i ∧ y = x ∧ i < l.length) ∨ (j ≠ i ∧ l[j]? = some y) := by
  by_cases e : j = i
  · subst e
    by_cases hl : j < l.length
    · rw [List.getElem?_set_self hl] at h; cases h; exact .inl ⟨rfl, rfl, hl⟩
    · rw [List.getElem?_eq_none (by simpa using hl)] at h; cases h
  · rw [List.getElem?_set_ne (Ne.symm e)] at h; exact .inr ⟨e, h⟩
def setE (i : Nat) (dv : DV) (ρ : En) : Option En := match ρ[i]? with
  | some (some (.ow true _)) => none
  | some _ => some (ρ.set i (some dv))
  | none => none
theorem setE_eq {i : Nat} {dv : DV} {ρ ρ' : En} (h : setE i dv ρ = some ρ') : ρ' = ρ.set i (some dv) ∧ i < ρ.length ∧ ∀ d, ρ[i]? ≠ some (some (.ow true d)) := by
  unfold setE at h
  split at h
  · cases h
  · rename_i x hx hn
    cases h
    refine ⟨rfl, (List.getElem?_eq_some_iff.mp hn).1, fun d e => ?_⟩
    rw [hn] at e
    exact hx d (Option.some.inj e)
  · cases h
section
variable {K : Kf} {G : Gh} {F H : Hp} {σ : L2.St} {ρ : En}
/-- a slot gets a frozen thing -/
theorem Rel.setF (I : Rel K G F H σ ρ) {i : Nat} {d : D} {v : V} {ρ' : En} (h : setE i (.fz d) ρ = some ρ') (r : R K F v d) : Rel K G F H (σ.set i (some v)) ρ' := by
  obtain ⟨rfl, hl, hn⟩ := setE_eq h
  refine ⟨I.sub, by simp [I.len], fun j dv e => ?_, fun j k b c d1 e1 p jk e1 e2 e3 e4 => ?_, I.keep, I.grow, I.low, fun q hq => ?_, I.lk, fun q hq => ?_, I.bx, I.nn.set (fun b ds e => by cases e) fun c e a e1 => by cases e1⟩
  · rcases get_set e with ⟨rfl, z, _⟩ | ⟨hne, z⟩
    · cases z
      exact ⟨v, by rw [List.getElem?_set_self (by rw [I.len]; exact hl)], r⟩
    · obtain ⟨w, h1, h2⟩ := I.slot j dv z
      exact ⟨w, by rw [List.getElem?_set_ne (Ne.symm hne)]; exact h1, h2⟩
  · rcases get_set e1 with ⟨_, z, _⟩ | ⟨n1, z1⟩
    · cases z
    rcases get_set e2 with ⟨_, z, _⟩ | ⟨n2, z2⟩
    · cases z
    rw [List.getElem?_set_ne (Ne.symm n1)] at e3
    rw [List.getElem?_set_ne (Ne.symm n2)] at e4
    exact I.dis j k b c _ _ p jk z1 z2 e3 e4
  · obtain ⟨d', h1, h2⟩ := I.bor q hq
    have ne : q.1 ≠ i := fun z => hn d' (by rw [← z]; exact h1)
    exact ⟨d', by rw [List.getElem?_set_ne (Ne.symm ne)]; exact h1, by rw [List.getElem?_set_ne (Ne.symm ne)]; exact h2⟩
  · obtain ⟨h1, h2, h3⟩ := I.pn q hq
    refine ⟨h1, h2, fun j b d' e => ?_⟩
    rcases get_set e with ⟨_, z, _⟩ | ⟨n1, z1⟩
    · cases z
    · rw [List.getElem?_set_ne (Ne.symm n1)]; exact h3 j b d' z1
/-- a new thing of its own -/
theorem Rel.own (I : Rel K G F H σ ρ) {p : Addr} {o : HO} (hp : H p = none) {i : Nat} {d : D} {ρ' : En} (h : setE i (.ow false d) ρ = some ρ') (ob : Ob K F (upd H p o) p d) (hd : isN d = false := by rfl) : Rel K G F (upd H p o) (σ.set i (some (.ref p))) ρ' := by
  have I1 := I.nw (Nw.lay I.sub hp (o := o))
  have f0 : F p = none := I.sub.free hp
  have h0 : G.H0 p = none := I.fresh hp
  have nop : ∀ (j : Nat) (b : Bool) (d : D), ρ[j]? = some (some (.ow b d)) → σ[j]? ≠ some (some (.ref p)) := fun j b d e z => by
    obtain ⟨v, h1, p', e1, _, ob', _⟩ := I.slot j _ e
    rw [z] at h1; cases h1; cases e1
    obtain ⟨o', e2, _⟩ := ob'.has
    rw [hp] at e2; cases e2
  have nip : ¬ NinI (upd H p o) σ ρ p := fun ⟨i1, b1, ds, p1, vs, h1, h2, h3, h4⟩ => by
    obtain ⟨vs', h5, _⟩ := I.nn i1 b1 ds p1 h1 h2
    have ne : p1 ≠ p := ne_of_none h5 hp
    rw [upd_ne ne] at h3
    exact I.nin hp ⟨i1, b1, ds, p1, vs, h1, h2, h3, h4⟩
  obtain ⟨rfl, hl, hn⟩ := setE_eq h
  refine ⟨I1.sub, by simp [I.len], fun j dv e => ?_, fun j k b c d1 d2 q jk e1 e2 e3 e4 => ?_, I1.keep, I1.grow, I1.low, fun q hq => ?_, I1.lk, fun q hq => ?_, I1.bx, I1.nn.set (fun b ds e => by cases e; cases hd) fun c e a e1 e2 => by cases e2; exact nip⟩
  · rcases get_set e with ⟨rfl, z, _⟩ | ⟨hne, z⟩
    · cases z
      exact ⟨.ref p, by rw [List.getElem?_set_self (by rw [I.len]; exact hl)], p, rfl, f0, ob, fun _ => h0, fun z => nomatch z⟩
    · obtain ⟨w, h1, h2⟩ := I1.slot j dv z
      exact ⟨w, by rw [List.getElem?_set_ne (Ne.symm hne)]; exact h1, h2⟩
  · rcases get_set e1 with ⟨z0, z, _⟩ | ⟨n1, z1⟩
    · subst z0
      rw [List.getElem?_set_self (by rw [I.len]; exact hl)] at e3
      cases e3
      rcases get_set e2 with ⟨z3, _, _⟩ | ⟨n2, z2⟩
      · exact jk z3.symm
      · rw [List.getElem?_set_ne (Ne.symm n2)] at e4
        exact nop k c _ z2 e4
    · rw [List.getElem?_set_ne (Ne.symm n1)] at e3
      rcases get_set e2 with ⟨z3, _, _⟩ | ⟨n2, z2⟩
      · subst z3
        rw [List.getElem?_set_self (by rw [I.len]; exact hl)] at e4
        cases e4
        exact nop j b _ z1 e3
      · rw [List.getElem?_set_ne (Ne.symm n2)] at e4
        exact I.dis j k b c _ _ q jk z1 z2 e3 e4
  · obtain ⟨d', h1, h2⟩ := I.bor q hq
    have ne : q.1 ≠ i := fun z => hn d' (by rw [← z]; exact h1)
    exact ⟨d', by rw [List.getElem?_set_ne (Ne.symm ne)]; exact h1, by rw [List.getElem?_set_ne (Ne.symm ne)]; exact h2⟩
  · obtain ⟨h1, h2, h3⟩ := I1.pn q hq
    refine ⟨h1, h2, fun j b d' e => ?_⟩
    rcases get_set e with ⟨z0, z, _⟩ | ⟨n1, z1⟩
    · subst z0
      rw [List.getElem?_set_self (by rw [I.len]; exact hl)]
      intro z
      cases z
      rw [(I.pn q hq).1] at hp
      cases hp
    · rw [List.getElem?_set_ne (Ne.symm n1)]; exact h3 j b d' z1
/-- a thing of one's own changes -/
theorem Rel.mut (I : Rel K G F H σ ρ) {i : Nat} {b : Bool} {d d' : D} {p : Addr} {o : HO} (hi : ρ[i]? = some (some (.ow b d))) (hs : σ[i]? = some (some (.ref p))) (ob : Ob K F (upd H p o) p d') (hd : isN d = false := by rfl) (hd' : isN d' = false := by rfl) :
    Rel K G F (upd H p o) σ (ρ.set i (some (.ow b d'))) := by
  obtain ⟨v, h1, p', e1, f0, ob0, w1, w2⟩ := I.slot i _ hi
  rw [hs] at h1; cases h1; cases e1
  have hl : i < ρ.length := (List.getElem?_eq_some_iff.mp hi).1
  refine ⟨fun a x e => ?_, by simp [I.len], fun j dv e => ?_, fun j k b1 c d1 d2 q jk e1 e2 e3 e4 => ?_, fun a x e hb => ?_, I.grow, I.low, fun q hq => ?_, fun q hq => ?_, fun q hq => ?_, fun q hq => ?_, ?_⟩
  · have ne : a ≠ p := fun z => by subst z; rw [f0] at e; cases e
    rw [upd_ne ne]; exact I.sub a x e
  · rcases get_set e with ⟨rfl, z, _⟩ | ⟨hne, z⟩
    · cases z
      exact ⟨.ref p, hs, p, rfl, f0, ob, w1, w2⟩
    · obtain ⟨w, h1, h2⟩ := I.slot j dv z
      refine ⟨w, h1, ?_⟩
      cases dv with
      | fz d => exact h2
      | ow b2 d2 =>
        obtain ⟨p2, e2, f2, ob2, w3, w4⟩ := h2
        subst e2
        have ne : p2 ≠ p := fun z2 => by subst z2; exact I.dis j i _ _ _ _ _ hne z hi h1 hs
        exact ⟨p2, rfl, f2, ob2.mono (Same.refl _) (upd_ne ne), w3, w4⟩
  · rcases get_set e1 with ⟨z0, z, _⟩ | ⟨n1, z1⟩
    · rcases get_set e2 with ⟨z3, _, _⟩ | ⟨n2, z2⟩
      · exact jk (z0.trans z3.symm)
      · subst z0; exact I.dis j k _ c _ _ q jk hi z2 e3 e4
    · rcases get_set e2 with ⟨z3, _, _⟩ | ⟨n2, z2⟩
      · subst z3; exact I.dis j k b1 _ _ _ q jk z1 hi e3 e4
      · exact I.dis j k b1 c _ _ q jk z1 z2 e3 e4
  · have ne : a ≠ p := fun z => by
      subst z
      cases b with
      | false => rw [w1 rfl] at e; cases e
      | true => exact hb (List.mem_append_left _ (List.mem_map.mpr ⟨_, w2 rfl, rfl⟩))
    rw [upd_ne ne]; exact I.keep a x e hb
  · obtain ⟨d2, h1, h2⟩ := I.bor q hq
    by_cases ne : q.1 = i
    · rw [ne, hi] at h1
      cases h1
      exact ⟨d', by rw [ne, List.getElem?_set_self hl], h2⟩
    · exact ⟨d2, by rw [List.getElem?_set_ne (Ne.symm ne)]; exact h1, h2⟩
  · obtain ⟨h1, h2⟩ := I.lk q hq
    have ne : q.1 ≠ p := fun z => h2 (by rw [z]; exact f0)
    exact ⟨by rw [upd_ne ne]; exact h1, h2⟩
  · obtain ⟨h1, h2, h3⟩ := I.pn q hq
    have ne : q.1 ≠ p := fun z => h3 i b d hi (by rw [z]; exact hs)
    refine ⟨by rw [upd_ne ne]; exact h1, h2, fun j b2 d2 e => ?_⟩
    rcases get_set e with ⟨z0, z, _⟩ | ⟨n1, z1⟩
    · subst z0; exact h3 j b d hi
    · exact h3 j b2 d2 z1
  · obtain ⟨h1, h2, h3⟩ := I.bx q hq
    refine ⟨h1, h2, ?_⟩
    by_cases z : q = p
    · subst z; exact ob.has
    · rw [upd_ne z]; exact h3
  · refine I.nn.step (Same.refl _) (fun j b ds e => ?_) (fun j b ds p1 e1 e2 => ?_) (fun a ha => ?_) rfl rfl fun j c e a e1 e2 => ?_
    · rcases get_set e with ⟨z0, z, _⟩ | ⟨n1, z1⟩
      · cases z; cases hd'
      · exact ⟨z1, rfl⟩
    · refine upd_ne fun z => ?_
      subst z
      by_cases ji : j = i
      · subst ji; rw [hi] at e1; cases e1; cases hd
      · exact I.dis j i _ _ _ _ _ ji e1 hi e2 hs
    · obtain ⟨h1, _, h3, h4⟩ := I.nn.ni ha
      have ne : a ≠ p := fun z => by subst z; exact h4 i b d hi hs
      exact ⟨upd_ne ne, h1, h3⟩
    · rcases get_set e1 with ⟨z0, z, _⟩ | ⟨n1, z1⟩
      · subst z0; cases z; exact .inl ⟨_, _, hi, e2⟩
      · exact .inl ⟨c, e, z1, e2⟩
/-- a slot is forgotten or gets out of the owner's hand; what it had is frozen -/
theorem Rel.frz (I : Rel K G F H σ ρ) {i : Nat} {d : D} {p : Addr} (hi : ρ[i]? = some (some (.ow false d))) (hs : σ[i]? = some (some (.ref p))) :
    ∃ F', Le F F' ∧ Rel K G F' H σ (ρ.set i (some (.fz d))) ∧ R K F' (.ref p) d := by
  obtain ⟨v, h1, p', e1, f0, ob0, w1, w2⟩ := I.slot i _ hi
  rw [hs] at h1; cases h1; cases e1
  have hl : i < ρ.length := (List.getElem?_eq_some_iff.mp hi).1
  by_cases dN : isN d = true
  · have r : R K F (.ref p) d := by
      cases d <;> first | exact .nst | cases dN
    have I2 := I.setF (i := i) (d := d) (v := .ref p) (ρ' := ρ.set i (some (.fz d))) (by unfold setE; rw [hi]) r
    have es : σ.set i (some (.ref p)) = σ := by
      apply List.ext_getElem?
      intro k
      by_cases z : k = i
      · subst z
        rw [List.getElem?_set_self (List.getElem?_eq_some_iff.mp hs).1, hs]
      · rw [List.getElem?_set_ne (Ne.symm z)]
    rw [es] at I2
    exact ⟨F, Same.refl _, I2, r⟩
  have dN : isN d = false := by simpa using dN
  obtain ⟨o, ho, hm⟩ := ob0.has
  have le : Le F (upd F p o) := upd_le f0
  have r : R K (upd F p o) (.ref p) d := by
    cases d with
    | lst ds => obtain ⟨vs, e, q⟩ := ob0; rw [ho] at e; cases e; exact .lst upd_same (q.mono le)
    | dic ds => obtain ⟨vs, e, q⟩ := ob0; rw [ho] at e; cases e; exact .dic upd_same (q.mono le)
    | dit ds => obtain ⟨vs, e, q⟩ := ob0; rw [ho] at e; cases e; exact .dit upd_same (q.mono le)
    | nst ds => cases dN
    | dtt ks => exact .dtt
    | ins c fs => exact .ins
    | _ => exact ob0.elim
  refine ⟨upd F p o, le, ⟨fun a x e => ?_, by simp [I.len], fun j dv e => ?_, fun j k b1 c d1 d2 q jk e1 e2 e3 e4 => ?_, I.keep, fun a x e => ?_, I.low.trans le, fun q hq => ?_, fun q hq => ?_, fun q hq => ?_, fun q hq => ?_, ?_⟩, r⟩
  · by_cases z : a = p
    · subst z; rw [upd_same] at e; cases e; exact .inl ho
    · rw [upd_ne z] at e; exact I.sub a x e
  · rcases get_set e with ⟨rfl, z, _⟩ | ⟨hne, z⟩
    · cases z
      exact ⟨.ref p, hs, r⟩
    · obtain ⟨w, h1, h2⟩ := I.slot j dv z
      refine ⟨w, h1, ?_⟩
      cases dv with
      | fz d => exact R.mono le h2
      | ow b2 d2 =>
        obtain ⟨p2, e2, f2, ob2, w3, w4⟩ := h2
        subst e2
        have ne : p2 ≠ p := fun z2 => by subst z2; exact I.dis j i _ _ _ _ _ hne z hi h1 hs
        exact ⟨p2, rfl, by rw [upd_ne ne]; exact f2, ob2.mono le rfl, w3, w4⟩
  · rcases get_set e1 with ⟨z0, z, _⟩ | ⟨n1, z1⟩
    · cases z
    · rcases get_set e2 with ⟨z3, z, _⟩ | ⟨n2, z2⟩
      · cases z
      · exact I.dis j k b1 c _ _ q jk z1 z2 e3 e4
  · by_cases z : a = p
    · subst z; exact .inr (.inl (w1 rfl))
    · rw [upd_ne z] at e; exact I.grow a x e
  · obtain ⟨d2, h1, h2⟩ := I.bor q hq
    have ne : q.1 ≠ i := fun z => by rw [z, hi] at h1; cases h1
    exact ⟨d2, by rw [List.getElem?_set_ne (Ne.symm ne)]; exact h1, h2⟩
  · obtain ⟨h1, h2⟩ := I.lk q hq
    exact ⟨h1, fun z => h2 (le.free z)⟩
  · obtain ⟨h1, h2, h3⟩ := I.pn q hq
    have ne : q.1 ≠ p := fun z => h3 i _ d hi (by rw [z]; exact hs)
    refine ⟨h1, by rw [upd_ne ne]; exact h2, fun j b2 d2 e => ?_⟩
    rcases get_set e with ⟨z0, z, _⟩ | ⟨n1, z1⟩
    · cases z
    · exact h3 j b2 d2 z1
  · obtain ⟨h1, h2, h3⟩ := I.bx q hq
    have ne : q ≠ p := fun z => h1 (by rw [z]; exact w1 rfl)
    exact ⟨h1, by rw [upd_ne ne]; exact h2, h3⟩
  · refine I.nn.step le (fun j b ds e => ?_) (fun j b ds p1 e1 e2 => rfl) (fun a ha => ?_) rfl rfl fun j c e a e1 e2 => ?_
    · rcases get_set e with ⟨z0, z, _⟩ | ⟨n1, z1⟩
      · cases z
      · exact ⟨z1, rfl⟩
    · obtain ⟨h1, _, h3, h4⟩ := I.nn.ni ha
      have ne : a ≠ p := fun z => by subst z; exact h4 i _ d hi hs
      exact ⟨rfl, by rw [upd_ne ne]; exact h1, h3⟩
    · rcases get_set e1 with ⟨z0, z, _⟩ | ⟨n1, z1⟩
      · cases z
      · exact .inl ⟨c, e, z1, e2⟩
/-- a slot is forgotten -/
theorem Rel.drop (I : Rel K G F H σ ρ) {i : Nat} (hn : ∀ d, ρ[i]? ≠ some (some (.ow true d))) : Rel K G F H σ (ρ.set i none) := by
  have g : ∀ {j : Nat} {dv : DV}, (ρ.set i none)[j]? = some (some dv) → j ≠ i ∧ ρ[j]? = some (some dv) := fun e => by
    rcases get_set e with ⟨_, z, _⟩ | z
    · cases z
    · exact z
  refine ⟨I.sub, by simp [I.len], fun j dv e => I.slot j dv (g e).2, fun j k b c d1 d2 q jk e1 e2 e3 e4 => I.dis j k b c d1 d2 q jk (g e1).2 (g e2).2 e3 e4, I.keep, I.grow, I.low, fun q hq => ?_, I.lk, fun q hq => ?_, I.bx, I.nn.drop i⟩
  · obtain ⟨d2, h1, h2⟩ := I.bor q hq
    have ne : q.1 ≠ i := fun z => by rw [z] at h1; exact hn _ h1
    exact ⟨d2, by rw [List.getElem?_set_ne (Ne.symm ne)]; exact h1, h2⟩
  · obtain ⟨h1, h2, h3⟩ := I.pn q hq
    exact ⟨h1, h2, fun j b2 d2 e => h3 j b2 d2 (g e).2⟩
/-- the owner's hand moves from slot j to slot i -/
theorem Rel.move (I : Rel K G F H σ ρ) {i j : Nat} {d : D} {p : Addr} {ρ' : En} (hj : ρ[j]? = some (some (.ow false d))) (hs : σ[j]? = some (some (.ref p))) (ij : i ≠ j) (h : setE i (.ow false d) (ρ.set j none) = some ρ') :
    Rel K G F H (σ.set i (some (.ref p))) ρ' := by
  obtain ⟨v, h1, p', e1, f0, ob0, w1, w2⟩ := I.slot j _ hj
  rw [hs] at h1; cases h1; cases e1
  have I1 : Rel K G F H σ (ρ.set j none) := I.drop fun e z => by rw [hj] at z; cases z
  obtain ⟨rfl, hl, hn⟩ := setE_eq h
  have nop : ∀ (k : Nat) (b : Bool) (e : D), (ρ.set j none)[k]? = some (some (.ow b e)) → σ[k]? ≠ some (some (.ref p)) := fun k b e z z2 => by
    rcases get_set z with ⟨_, z, _⟩ | ⟨n1, z1⟩
    · cases z
    · exact I.dis k j _ _ _ _ p n1 z1 hj z2 hs
  refine ⟨I1.sub, by simp [I.len], fun k dv e => ?_, fun k l b c d1 d2 q jk e1 e2 e3 e4 => ?_, I1.keep, I1.grow, I1.low, fun q hq => ?_, I1.lk, fun q hq => ?_, I1.bx, ?_⟩
  · rcases get_set e with ⟨rfl, z, _⟩ | ⟨hne, z⟩
    · cases z
      exact ⟨.ref p, by rw [List.getElem?_set_self (by rw [I1.len]; exact hl)], p, rfl, f0, ob0, w1, fun z => nomatch z⟩
    · obtain ⟨w, h1, h2⟩ := I1.slot k dv z
      exact ⟨w, by rw [List.getElem?_set_ne (Ne.symm hne)]; exact h1, h2⟩
  · rcases get_set e1 with ⟨z0, z, _⟩ | ⟨n1, z1⟩
    · subst z0
      rw [List.getElem?_set_self (by rw [I1.len]; exact hl)] at e3
      cases e3
      rcases get_set e2 with ⟨z3, _, _⟩ | ⟨n2, z2⟩
      · exact jk z3.symm
      · rw [List.getElem?_set_ne (Ne.symm n2)] at e4
        exact nop l c _ z2 e4
    · rw [List.getElem?_set_ne (Ne.symm n1)] at e3
      rcases get_set e2 with ⟨z3, _, _⟩ | ⟨n2, z2⟩
      · subst z3
        rw [List.getElem?_set_self (by rw [I1.len]; exact hl)] at e4
        cases e4
        exact nop k b _ z1 e3
      · rw [List.getElem?_set_ne (Ne.symm n2)] at e4
        exact I1.dis k l b c _ _ q jk z1 z2 e3 e4
  · obtain ⟨d', h1, h2⟩ := I1.bor q hq
    have ne : q.1 ≠ i := fun z => hn d' (by rw [← z]; exact h1)
    exact ⟨d', by rw [List.getElem?_set_ne (Ne.symm ne)]; exact h1, by rw [List.getElem?_set_ne (Ne.symm ne)]; exact h2⟩
  · obtain ⟨h1, h2, h3⟩ := I1.pn q hq
    refine ⟨h1, h2, fun k b d' e => ?_⟩
    rcases get_set e with ⟨z0, z, _⟩ | ⟨n1, z1⟩
    · subst z0
      rw [List.getElem?_set_self (by rw [I1.len]; exact hl)]
      intro z
      cases z
      exact (I.pn q hq).2.2 j _ d hj hs
    · rw [List.getElem?_set_ne (Ne.symm n1)]; exact h3 k b d' z1
  · -- the nested ones
    have back : ∀ {k : Nat} {c : Bool} {e : D} {a : Addr}, ((ρ.set j none).set i (some (.ow false d)))[k]? = some (some (.ow c e)) → (σ.set i (some (.ref p)))[k]? = some (some (.ref a)) → (k = i ∧ c = false ∧ e = d ∧ a = p) ∨ (k ≠ i ∧ k ≠ j ∧ ρ[k]? = some (some (.ow c e)) ∧ σ[k]? = some (some (.ref a))) := fun {k c e a} z1 z2 => by
      rcases get_set z1 with ⟨rfl, y, _⟩ | ⟨n1, y1⟩
      · cases y
        rw [List.getElem?_set_self (by rw [I1.len]; exact hl)] at z2
        cases z2
        exact .inl ⟨rfl, rfl, rfl, rfl⟩
      · rw [List.getElem?_set_ne (Ne.symm n1)] at z2
        rcases get_set y1 with ⟨_, y, _⟩ | ⟨n2, y2⟩
        · cases y
        · exact .inr ⟨n1, n2, y2, z2⟩
    intro k b ds a e1 e2
    rcases back e1 e2 with ⟨rfl, rfl, rfl, rfl⟩ | ⟨n1, n2, y1, y2⟩
    · obtain ⟨vs, h1, h2, h3, h4⟩ := I.nn j false ds a hj hs
      refine ⟨vs, h1, h2, h3, fun q hq => ⟨(h4 q hq).1, (h4 q hq).2.1, fun l c e p' z1 z2 => ?_⟩⟩
      rcases back z1 z2 with ⟨rfl, rfl, rfl, rfl⟩ | ⟨m1, m2, w1, w2⟩
      · exact ⟨((h4 q hq).2.2 j _ _ _ hj hs).1, fun z => absurd rfl z⟩
      · have := (h4 q hq).2.2 l c e p' w1 w2
        exact ⟨this.1, fun _ => this.2 m2⟩
    · obtain ⟨vs, h1, h2, h3, h4⟩ := I.nn k b ds a y1 y2
      refine ⟨vs, h1, h2, h3, fun q hq => ⟨(h4 q hq).1, (h4 q hq).2.1, fun l c e p' z1 z2 => ?_⟩⟩
      rcases back z1 z2 with ⟨rfl, rfl, rfl, rfl⟩ | ⟨m1, m2, w1, w2⟩
      · have := (h4 q hq).2.2 j false _ _ hj hs
        exact ⟨this.1, fun _ => this.2 (Ne.symm n2)⟩
      · exact (h4 q hq).2.2 l c e p' w1 w2
end
/-- what an expression tells, frozen -/
def frR (r : RV) (ρ : En) : Option (D × En) := match r with
  | .fz d => some (d, ρ)
  | .sl i => match ρ[i]? with
    | some (some (.ow false d)) => some (d, ρ.set i (some (.fz d)))
    | _ => none
theorem Rel.frR {K : Kf} {G : Gh} {F H : Hp} {σ : L2.St} {ρ ρ' : En} {r : RV} {d : D} {v : V} (I : Rel K G F H σ ρ) (k : RVk K F σ v r) (h : frR r ρ = some (d, ρ')) : ∃ F', Le F F' ∧ Rel K G F' H σ ρ' ∧ R K F' v d := by
  cases r with
  | fz e => cases h; exact ⟨F, Same.refl _, I, k⟩
  | sl i =>
    unfold DL.frR at h
    dsimp only at h
    split at h
    · rename_i e he
      cases h
      obtain ⟨v', h1, p, e1, _⟩ := I.slot i _ he
      rw [show σ[i]? = some (some v) from k] at h1
      cases h1
      subst e1
      exact I.frz he k
    · cases h
/-! ### statements -/
/-- what is raised: its class, its field -/
abbrev Xc := Nat × List (Str × D)
def XOk (K : Kf) (F : Hp) (x : Xc) (cls : Value) (d : Option Addr) : Prop := ∃ C, ExA K x.1 C ∧ cls = .ref C ∧ ((d = none ∧ x.2 = []) ∨ ∃ dd f u e, d = some dd ∧ x.2 = [(f, e)] ∧ F dd = some (.xd [(f, u)]) ∧ R K F u e)
theorem XOk.mono {K : Kf} {F F' : Hp} (l : Le F F') {x : Xc} {cls : Value} {d : Option Addr} (h : XOk K F x cls d) : XOk K F' x cls d := by
  obtain ⟨C, h1, h2, h3⟩ := h
  refine ⟨C, h1, h2, ?_⟩
  rcases h3 with h3 | ⟨dd, f, u, e, a, b, c, r⟩
  · exact .inl h3
  · exact .inr ⟨dd, f, u, e, a, b, l _ _ c, r.mono l⟩
/-- the least that is wanted of an exception in the air of X -/
def wX (X : Cx) : WX := fun cls d σ H => ∀ u s', XE X (fun c' d' σ' H' => c' = cls ∧ d' = d ∧ σ' = σ ∧ H' = H) u s' → X.xe u s'
inductive Out where
  | nx (ρ : En) | rt (d : D) (ρ : En) | rn (d : D) (ρ : En) | bk (ρ : En) | ct (ρ : En) | xx (x : Xc) (ρ : En)
abbrev MS := En → Option Out
def OutOk (X : Cx) (G : Gh) (F : Hp) (T : Ends) : Out → Prop
  | .nx ρ' => ∀ F' H' σ', Le F F' → Rel X.K G F' H' σ' ρ' → T.nx σ' H'
  | .rt d ρ' => ∀ F' H' σ' v, Le F F' → Rel X.K G F' H' σ' ρ' → R X.K F' v d → T.rt v H'
  | .rn d ρ' => ∀ F' H' σ' p, Le F F' → Rel X.K G F' H' σ' ρ' → F' p = none → Ob X.K F' H' p d → Nst X.K G.H0 F' H' p d → G.H0 p = none → T.rt (.ref p) H'
  | .bk ρ' => ∀ F' H' σ', Le F F' → Rel X.K G F' H' σ' ρ' → T.bk σ' H'
  | .ct ρ' => ∀ F' H' σ', Le F F' → Rel X.K G F' H' σ' ρ' → T.ct σ' H'
  | .xx x ρ' => ∀ F' H' σ' cls d, Le F F' → Rel X.K G F' H' σ' ρ' → XOk X.K F' x cls d → wX X cls d σ' H'
theorem OutOk.mono {X : Cx} {G : Gh} {F F' : Hp} {T : Ends} {o : Out} (l : Le F F') (h : OutOk X G F T o) : OutOk X G F' T o := by
  cases o with
  | nx ρ => exact fun F2 H2 σ2 l2 I2 => h F2 H2 σ2 (l.trans l2) I2
  | rt d ρ => exact fun F2 H2 σ2 v l2 I2 => h F2 H2 σ2 v (l.trans l2) I2
  | rn d ρ => exact fun F2 H2 σ2 p l2 I2 => h F2 H2 σ2 p (l.trans l2) I2
  | bk ρ => exact fun F2 H2 σ2 l2 I2 => h F2 H2 σ2 (l.trans l2) I2
  | ct ρ => exact fun F2 H2 σ2 l2 I2 => h F2 H2 σ2 (l.trans l2) I2
  | xx x ρ => exact fun F2 H2 σ2 c d l2 I2 => h F2 H2 σ2 c d (l.trans l2) I2
def tS (X : Cx) (m : MS) : TS := fun T σ H => ∃ G F ρ, Rel X.K G F H σ ρ ∧ ∃ o, m ρ = some o ∧ OutOk X G F T o
abbrev DS (X : Cx) (st : Stmt) (m : MS) : Prop := PS X st (tS X m)
abbrev DSs (X : Cx) (st : List Stmt) (m : MS) : Prop := PSs X st (tS X m)
def mNx : MS := fun ρ => some (.nx ρ)
def mSeq (m1 m2 : MS) : MS := fun ρ => (m1 ρ).bind fun o => match o with
  | .nx ρ' => m2 ρ'
  | o => some o
def mNever : MS := fun _ => none
section
variable {X : Cx}
theorem dss_nil : DSs X [] mNx := pssImp pss_nil fun T σ H ⟨G, F, ρ, I, o, e, k⟩ => by
  cases e
  exact k F H σ (Same.refl _) I
theorem dss_cons {st : Stmt} {rest : List Stmt} {m1 m2 : MS} (h1 : DS X st m1) (h2 : DSs X rest m2) : DSs X (st :: rest) (mSeq m1 m2) := pssImp (pss_cons h1 h2) fun T σ H ⟨G, F, ρ, I, o, e, k⟩ => by
  obtain ⟨o1, e1, e2⟩ := Option.bind_eq_some_iff.mp e
  refine ⟨G, F, ρ, I, o1, e1, ?_⟩
  cases o1 with
  | nx ρ1 => exact fun F1 H1 σ1 l1 I1 => ⟨G, F1, ρ1, I1, o, e2, k.mono l1⟩
  | rt d ρ1 => cases e2; exact k
  | rn d ρ1 => cases e2; exact k
  | bk ρ1 => cases e2; exact k
  | ct ρ1 => cases e2; exact k
  | xx x ρ1 => cases e2; exact k
theorem dss_one {st : Stmt} {m1 : MS} (h1 : DS X st m1) : DSs X [st] m1 := pss_one h1
theorem ds_never {st : Stmt} : DS X st mNever := psImp ps_never fun T σ H ⟨G, F, ρ, I, o, e, k⟩ => by cases e
def mBk : MS := fun ρ => some (.bk ρ)
def mCt : MS := fun ρ => some (.ct ρ)
def mDrop (m : ME) : MS := fun ρ => (m ρ).bind fun p => some (.nx p.2)
theorem ds_expr {e : Expr} {m : ME} {pos : Pos} (he : DE X e m) (hs : swapsWith e none pos.line X.env = pure false := by rfl) : DS X (.Expr e pos) (mDrop m) := psImp (ps_expr he hs) fun T σ H ⟨G, F, ρ, I, o, e, k⟩ => by
  obtain ⟨⟨r1, ρ1⟩, e1, e⟩ := Option.bind_eq_some_iff.mp e
  cases e
  exact ⟨G, F, ρ, I, r1, _, e1, fun F1 H1 v l1 I1 k1 => k F1 H1 σ l1 I1⟩
def mRet (m : ME) : MS := fun ρ => (m ρ).bind fun p => (frR p.1 p.2).bind fun q => some (.rt q.1 q.2)
theorem ds_ret {e : Expr} {m : ME} {pos : Pos} (he : DE X e m) : DS X (.Return (some e) pos) (mRet m) := psImp (ps_ret he) fun T σ H ⟨G, F, ρ, I, o, e, k⟩ => by
  obtain ⟨⟨r1, ρ1⟩, e1, e⟩ := Option.bind_eq_some_iff.mp e
  obtain ⟨⟨d, ρ2⟩, e2, e⟩ := Option.bind_eq_some_iff.mp e
  cases e
  refine ⟨G, F, ρ, I, r1, _, e1, fun F1 H1 v l1 I1 k1 => ?_⟩
  obtain ⟨F2, l2, I2, r2⟩ := I1.frR k1 e2
  exact k F2 H1 σ v (l1.trans l2) I2 r2
/-- what is made is handed over, not frozen -/
def retO (o : O1) (ρ : En) : Out := match o with
  | .val d => .rt d ρ
  | .newT ds => .rt (.tup ds) ρ
  | .newP ds => .rt (.tpl ds) ρ
  | .newL ds => .rn (.lst ds) ρ
  | .newK kv => .rn (.dic kv) ρ
  | .newI kv => .rn (.dit kv) ρ
def mRetO (m : MO) : MS := fun ρ => (m ρ).bind fun p => some (retO p.1 p.2)
def mRetV (m : ME) : MS := fun ρ => (m ρ).bind fun p => match p.1 with
  | .fz d => some (.rt d p.2)
  | .sl i => match p.2[i]? with
    | some (some (.ow false d)) => some (.rn d p.2)
    | _ => none
def mRetN : MS := fun ρ => some (.rt .non ρ)
def mIf (c : MT) (a b : MS) : MS := fun ρ => (c ρ).bind fun p => if p.1 = true then a p.2 else b p.2
theorem ds_if {c : Expr} {a b : List Stmt} {mc : MT} {ma mb : MS} {pos : Pos} (hc : DT X c mc) (ha : DSs X a ma) (hb : DSs X b mb) : DS X (.If c a b pos) (mIf mc ma mb) := psImp (ps_if hc ha hb) fun T σ H ⟨G, F, ρ, I, o, e, k⟩ => by
  obtain ⟨⟨c1, ρ1⟩, e1, e⟩ := Option.bind_eq_some_iff.mp e
  refine ⟨G, F, ρ, I, c1, ρ1, e1, fun F1 H1 l1 I1 => ?_⟩
  cases c1 with
  | true => exact ⟨G, F1, ρ1, I1, o, e, k.mono l1⟩
  | false => exact ⟨G, F1, ρ1, I1, o, e, k.mono l1⟩
/-! ### assignments -/
/-- x = e, what e tells is frozen -/
def mSet (i : Nat) (m : ME) : MS := fun ρ => (m ρ).bind fun p => (frR p.1 p.2).bind fun q => (setE i (.fz q.1) q.2).bind fun ρ' => some (.nx ρ')
theorem ds_set {i : Nat} {x : Str} {e : Expr} {m : ME} {pos pos' : Pos} (hN : X.N.Nodup) (hi : X.N[i]? = some x) (hx : Loc X.env.scope x) (he : DE X e m) (hs : swapsWith e (some (.Name x pos')) pos.line X.env = pure false := by rfl)
    (hf : X.fn x = true ∨ X.env.scope.names.lookup x = some .local := by first | exact .inl rfl | exact .inr rfl | assumption) : DS X (.Assign [.Name x pos'] e pos) (mSet i m) :=
  psImp (ps_set hN hi hx he hs hf) fun T σ H ⟨G, F, ρ, I, o, e, k⟩ => by
    obtain ⟨⟨r1, ρ1⟩, e1, e⟩ := Option.bind_eq_some_iff.mp e
    obtain ⟨⟨d, ρ2⟩, e2, e⟩ := Option.bind_eq_some_iff.mp e
    obtain ⟨ρ3, e3, e⟩ := Option.bind_eq_some_iff.mp e
    cases e
    refine ⟨G, F, ρ, I, r1, _, e1, fun F1 H1 v l1 I1 k1 => ?_⟩
    obtain ⟨F2, l2, I2, r2⟩ := I1.frR k1 e2
    exact k F2 H1 _ (l1.trans l2) (I2.setF e3 r2)
/-- x = y, the owner's hand moves -/
def mSetMv (i : Nat) (m : ME) : MS := fun ρ => (m ρ).bind fun p => match p.1 with
  | .fz d => (setE i (.fz d) p.2).bind fun ρ' => some (.nx ρ')
  | .sl j => match p.2[j]? with
    | some (some (.ow false d)) => if i = j then none else (setE i (.ow false d) (p.2.set j none)).bind fun ρ' => some (.nx ρ')
    | _ => none
/-- the new thing is the slot's own -/
def ownO : O1 → DV
  | .val d => .fz d
  | .newL ds => .ow false (.lst ds)
  | .newT ds => .fz (.tup ds)
  | .newP ds => .fz (.tpl ds)
  | .newK kv => .ow false (.dic kv)
  | .newI kv => .ow false (.dit kv)
theorem Rel.setO {K : Kf} {G : Gh} {F H : Hp} {σ : L2.St} {ρ ρ' : En} {i : Nat} {o : O1} {T : L2.St → Hp → Prop} (I : Rel K G F H σ ρ) (e : setE i (ownO o) ρ = some ρ') (k : ∀ F' H' σ', Le F F' → Rel K G F' H' σ' ρ' → T σ' H') :
    O1Ok K F H (fun v H1 => T (σ.set i (some v)) H1) o := by
  cases o with
  | val d => exact fun v r => k F H _ (Same.refl _) (I.setF e r)
  | newT ds => exact fun p vs hp r => k _ _ _ (Nw.new_ I.sub hp).le ((I.nw (Nw.new_ I.sub hp)).setF e (.tup upd_same (r.mono (Nw.new_ I.sub hp).le)))
  | newP ds => exact fun p ob vs hp n r => k _ _ _ (Nw.new_ I.sub hp).le ((I.nw (Nw.new_ I.sub hp)).setF e (.tpl upd_same n (r.mono (Nw.new_ I.sub hp).le)))
  | newL ds => exact fun p vs hp r => k _ _ _ (Same.refl _) (I.own hp e ⟨vs, upd_same, r⟩)
  | newK ds => exact fun p vs hp r => k _ _ _ (Same.refl _) (I.own hp e ⟨vs, upd_same, r⟩)
  | newI ds => exact fun p vs hp r => k _ _ _ (Same.refl _) (I.own hp e ⟨vs, upd_same, r⟩)
def mSetO (i : Nat) (m : MO) : MS := fun ρ => (m ρ).bind fun p => (setE i (ownO p.1) p.2).bind fun ρ' => some (.nx ρ')
theorem setO_of {X : Cx} {i : Nat} {m : MO} {T : Ends} {σ : L2.St} {H : Hp} (h : tS X (mSetO i m) T σ H) : tAsg (tO X.K m) (gName i) T σ H := by
  obtain ⟨G, F, ρ, I, o, e, k⟩ := h
  obtain ⟨⟨r1, ρ1⟩, e1, e⟩ := Option.bind_eq_some_iff.mp e
  obtain ⟨ρ3, e3, e⟩ := Option.bind_eq_some_iff.mp e
  cases e
  exact ⟨G, F, ρ, I, r1, _, e1, fun F1 H1 l1 I1 => I1.setO e3 fun F2 H2 σ2 l2 I2 => k F2 H2 σ2 (l1.trans l2) I2⟩
theorem ds_setO {i : Nat} {x : Str} {e : Expr} {m : MO} {pos pos' : Pos} (hN : X.N.Nodup) (hi : X.N[i]? = some x) (hx : Loc X.env.scope x) (he : DO X e m) (hs : swapsWith e (some (.Name x pos')) pos.line X.env = pure false := by rfl)
    (hf : X.fn x = true ∨ X.env.scope.names.lookup x = some .local := by first | exact .inl rfl | exact .inr rfl | assumption) : DS X (.Assign [.Name x pos'] e pos) (mSetO i m) :=
  psImp (ps_set hN hi hx he hs hf) fun T σ H => setO_of
end
/-! ### targets -/
theorem wipe_set {σ : L2.St} {i : Nat} {v : Option V} : ∀ {vs : List Nat}, i ∈ vs → L2.wipe (σ.set i v) vs = L2.wipe σ vs
  | [], h => by cases h
  | w :: vs, h => by
    unfold L2.wipe
    by_cases e : i ∈ vs
    · rw [wipe_set e]
    · have ew : i = w := by
        rcases List.mem_cons.mp h with z | z
        · exact z
        · exact absurd z e
      subst ew
      apply List.ext_getElem?
      intro j
      by_cases ej : j = i
      · subst ej
        by_cases hl : j < σ.length
        · rw [List.getElem?_set_self (by rw [L2.wipe_length, List.length_set]; exact hl), List.getElem?_set_self (by rw [L2.wipe_length]; exact hl)]
        · rw [List.getElem?_eq_none (by rw [List.length_set, L2.wipe_length, List.length_set]; omega), List.getElem?_eq_none (by rw [List.length_set, L2.wipe_length]; omega)]
      · rw [List.getElem?_set_ne (Ne.symm ej), List.getElem?_set_ne (Ne.symm ej)]
        by_cases hj : j ∈ vs
        · have z : ∀ τ : L2.St, τ.length = σ.length → (L2.wipe τ vs)[j]? = if j < σ.length then some none else none := fun τ ht => by
            split
            · rename_i hl
              cases q : (L2.wipe τ vs)[j]? with
              | none => rw [List.getElem?_eq_none_iff, L2.wipe_length, ht] at q; omega
              | some x =>
                cases x with
                | none => rfl
                | some v => exact absurd hj (wipe_some q).2
            · exact List.getElem?_eq_none (by rw [L2.wipe_length, ht]; omega)
          rw [z _ (by rw [List.length_set]), z _ rfl]
        · rw [wipe_out hj, wipe_out hj, List.getElem?_set_ne (Ne.symm ej)]
abbrev MG := D → En → Option En
def tG (K : Kf) (ws : List Nat) (m : MG) : TG := fun v σ H Q => ∃ G F ρ d, Rel K G F H σ ρ ∧ R K F v d ∧ ∃ ρ', m d ρ = some ρ' ∧ ∀ σ', Rel K G F H σ' ρ' → L2.wipe σ' ws = L2.wipe σ ws → Q σ' H
abbrev DG (X : Cx) (tg : Expr) (ws : List Nat) (m : MG) : Prop := PG X tg (tG X.K ws m)
abbrev MGs := List D → En → Option En
def tGs (K : Kf) (ws : List Nat) (m : MGs) : TGs := fun vs σ H Q => ∃ G F ρ ds, Rel K G F H σ ρ ∧ RA K F vs ds ∧ ∃ ρ', m ds ρ = some ρ' ∧ ∀ σ', Rel K G F H σ' ρ' → L2.wipe σ' ws = L2.wipe σ ws → Q σ' H
abbrev DGs (X : Cx) (ts : List Expr) (ws : List Nat) (m : MGs) : Prop := PGs X ts (tGs X.K ws m)
theorem pgImp {X : Cx} {e : Expr} {t t' : TG} (h : PG X e t) (i : ∀ v σ H Q, t' v σ H Q → t v σ H Q) : PG X e t' := ⟨fun pins s σ H v u Q I r hw => h.run pins s σ H v u Q I r (i _ _ _ _ hw)⟩
theorem pgsImp {X : Cx} {e : List Expr} {t t' : TGs} (h : PGs X e t) (i : ∀ v σ H Q, t' v σ H Q → t v σ H Q) : PGs X e t' := ⟨fun pins s σ H v u Q I r hw => h.run pins s σ H v u Q I r (i _ _ _ _ hw)⟩
section
variable {X : Cx} {ws : List Nat}
def mGName (i : Nat) : MG := fun d ρ => setE i (.fz d) ρ
theorem dg_name {i : Nat} {x : Str} {pos : Pos} (hN : X.N.Nodup) (hi : X.N[i]? = some x) (hx : Loc X.env.scope x) (hw : i ∈ ws := by decide) (hf : X.fn x = true ∨ X.env.scope.names.lookup x = some .local := by first | exact .inl rfl | exact .inr rfl | assumption) : DG X (.Name x pos) ws (mGName i) :=
  pgImp (pg_name hN hi hx hf) fun v σ H Q ⟨G, F, ρ, d, I, r, ρ', e, k⟩ => k _ (I.setF e r) (wipe_set hw)
def mGNil : MGs := fun ds ρ => match ds with
  | [] => some ρ
  | _ => none
def mGCons (m : MG) (ms : MGs) : MGs := fun ds ρ => match ds with
  | d :: ds => (m d ρ).bind fun ρ1 => ms ds ρ1
  | [] => none
theorem dgs_nil : DGs X [] ws mGNil := pgsImp pgs_nil fun v σ H Q ⟨G, F, ρ, d, I, r, ρ', e, k⟩ => by
  cases r with
  | nil => cases e; exact ⟨rfl, k _ I rfl⟩
  | cons _ _ => cases e
theorem dgs_cons {e : Expr} {es : List Expr} {m : MG} {ms : MGs} (h1 : DG X e ws m) (h2 : DGs X es ws ms) (hs : (assignEach (e :: es) X.env).map (·.2) = assign e X.env :: (assignEach es X.env).map (·.2) := by rfl) : DGs X (e :: es) ws (mGCons m ms) :=
  pgsImp (pgs_cons h1 h2 hs) fun v σ H Q ⟨G, F, ρ, d, I, r, ρ', e, k⟩ => by
    cases r with
    | nil => cases e
    | cons r t =>
      obtain ⟨ρ1, e1, e2⟩ := Option.bind_eq_some_iff.mp e
      exact ⟨_, _, rfl, G, F, ρ, _, I, r, ρ1, e1, fun σ1 I1 w1 => ⟨G, F, ρ1, _, I1, t, ρ', e2, fun σ2 I2 w2 => k σ2 I2 (w2.trans w1)⟩⟩
def mGTup (n : Nat) (ms : MGs) : MG := fun d ρ => match d with
  | .tup ds => if ds.length = n then ms ds ρ else none
  | .tpl ds => if ds.length = n then ms ds ρ else none
  | _ => none
theorem dg_tup {es : List Expr} {k : Nat} {ms : MGs} {n : Nat} {pos : Pos} (hc : X.calm = true) (h : DGs X es ws ms) (hn : (assignEach es X.env).length = n := by rfl) (hst : (assignEach es X.env).findIdx? (·.1) = none := by rfl) : DG X (.Tuple es k pos) ws (mGTup n ms) :=
  pgImp (pg_tup hc h hn hst) fun v σ H Q ⟨G, F, ρ, d, I, r, ρ', e, k⟩ => by
    cases r with
    | tup fa ra =>
      unfold mGTup at e
      dsimp only at e
      split at e
      · rename_i hl
        exact ⟨_, _, rfl, .inl (.inl (I.sub.nd fa rfl)), by rw [ra.length]; exact hl, G, F, ρ, _, I, ra, ρ', e, k⟩
      · cases e
    | tpl fa _ ra =>
      unfold mGTup at e
      dsimp only at e
      split at e
      · rename_i hl
        exact ⟨_, _, rfl, .inl (.inr ⟨_, I.sub.nd fa rfl⟩), by rw [ra.length]; exact hl, G, F, ρ, _, I, ra, ρ', e, k⟩
      · cases e
    | _ => cases e
/-- target = e -/
def mAsg (m : ME) (g : MG) : MS := fun ρ => (m ρ).bind fun p => (frR p.1 p.2).bind fun q => (g q.1 q.2).bind fun ρ' => some (.nx ρ')
/-- a, b = x, y -/
def fr2 (rs : List RV) (ρ : En) : Option (D × D × En) := match rs with
  | [r1, r2] => (frR r1 ρ).bind fun p => (frR r2 p.2).bind fun q => some (p.1, q.1, q.2)
  | _ => none
def mPar (i j : Nat) (m : MA) : MS := fun ρ => (m ρ).bind fun p => (fr2 p.1 p.2).bind fun q => (setE i (.fz q.1) q.2.2).bind fun ρ1 => (setE j (.fz q.2.1) ρ1).bind fun ρ' => some (.nx ρ')
end
/-! ### tests -/
section
variable {X : Cx}
def mBool (m : ME) : MT := fun ρ => (m ρ).bind fun p => match p.1 with
  | .fz (.bl b) => some (b, p.2)
  | _ => none
theorem tTest_of {K : Kf} {m : ME} {t : TE} (h : ∀ σ H Q, tE K m σ H Q → t σ H Q) {σ : L2.St} {H : Hp} {Q : Bool → Hp → Prop} (w : tT K (mBool m) σ H Q) : tTest t σ H Q := by
  obtain ⟨G, F, ρ, I, b, ρ', e, k⟩ := w
  obtain ⟨⟨r1, ρ1⟩, e1, e⟩ := Option.bind_eq_some_iff.mp e
  refine h σ H _ ⟨G, F, ρ, I, r1, ρ1, e1, fun F1 H1 v l1 I1 k1 => ?_⟩
  cases r1 with
  | sl i => cases e
  | fz d =>
    cases d with
    | bl c => cases e; cases k1; exact ⟨_, rfl, k F1 H1 l1 I1⟩
    | _ => cases e
/-- an expression of bools, as a test -/
theorem dt_val {e : Expr} {m : ME} (h : DE X e m) (he : ∀ whole, isTrue e X.env whole = (do let v ← whole; standAt e.pos; holding [v] (truthy v)) := by intro _; rfl) : DT X e (mBool m) :=
  ptImp (pt_val h he) fun σ H Q w => tTest_of (fun _ _ _ z => z) w
def mNot (m : MT) : MT := fun ρ => (m ρ).bind fun p => some (!p.1, p.2)
def mAnd (a b : MT) : MT := fun ρ => (a ρ).bind fun p => if p.1 = true then b p.2 else some (false, p.2)
def mOr (a b : MT) : MT := fun ρ => (a ρ).bind fun p => if p.1 = true then some (true, p.2) else b p.2
abbrev DW (X : Cx) (e : Expr) (m : MT) : Prop := PW X e (tT X.K m)
theorem pwImp {e : Expr} {t t' : TT} (h : PW X e t) (i : ∀ σ H Q, t' σ H Q → t σ H Q) : PW X e t' := ⟨fun wh pins s σ H Q I hw => h.run wh pins s σ H Q I (i _ _ _ hw)⟩
theorem dt_not {e : Expr} {m : MT} {pos : Pos} (h : DT X e m) : DT X (.UnaryOp .Not e pos) (mNot m) := ptImp (pt_not h) fun σ H Q ⟨G, F, ρ, I, b, ρ', e, k⟩ => by
  obtain ⟨⟨r1, ρ1⟩, e1, e⟩ := Option.bind_eq_some_iff.mp e
  cases e
  exact ⟨G, F, ρ, I, r1, _, e1, fun F1 H1 l1 I1 => k F1 H1 l1 I1⟩
theorem dw_and1 {a : Expr} {m : MT} {pos : Pos} (h : DT X a m) : DW X (.BoolOp .And [a] pos) m := pw_and1 h
theorem dw_or1 {a : Expr} {m : MT} {pos : Pos} (h : DT X a m) : DW X (.BoolOp .Or [a] pos) m := pw_or1 h
theorem dw_and {a b : Expr} {rest : List Expr} {ma mb : MT} {pos : Pos} (h : DT X a ma) (hb : DW X (.BoolOp .And (b :: rest) pos) mb) : DW X (.BoolOp .And (a :: b :: rest) pos) (mAnd ma mb) := pwImp (pw_and h hb) fun σ H Q ⟨G, F, ρ, I, b, ρ', e, k⟩ => by
  obtain ⟨⟨c1, ρ1⟩, e1, e⟩ := Option.bind_eq_some_iff.mp e
  refine ⟨G, F, ρ, I, c1, ρ1, e1, fun F1 H1 l1 I1 => ?_⟩
  cases c1 with
  | true => exact ⟨G, F1, ρ1, I1, b, ρ', e, fun F2 H2 l2 I2 => k F2 H2 (l1.trans l2) I2⟩
  | false => cases e; exact k F1 H1 l1 I1
theorem dw_or {a b : Expr} {rest : List Expr} {ma mb : MT} {pos : Pos} (h : DT X a ma) (hb : DW X (.BoolOp .Or (b :: rest) pos) mb) : DW X (.BoolOp .Or (a :: b :: rest) pos) (mOr ma mb) := pwImp (pw_or h hb) fun σ H Q ⟨G, F, ρ, I, b, ρ', e, k⟩ => by
  obtain ⟨⟨c1, ρ1⟩, e1, e⟩ := Option.bind_eq_some_iff.mp e
  refine ⟨G, F, ρ, I, c1, ρ1, e1, fun F1 H1 l1 I1 => ?_⟩
  cases c1 with
  | true => cases e; exact k F1 H1 l1 I1
  | false => exact ⟨G, F1, ρ1, I1, b, ρ', e, fun F2 H2 l2 I2 => k F2 H2 (l1.trans l2) I2⟩
theorem DW.dt {e : Expr} {m : MT} (h : DW X e m) : DT X e m := PW.pt h
/-! ### while -/
def whileF : Nat → MT → MS → En → Option Out
  | 0, _, _, _ => none
  | n + 1, c, b, ρ => (c ρ).bind fun p => if p.1 = true then (b p.2).bind (fun o => match o with
      | .nx ρ' => whileF n c b ρ'
      | .ct ρ' => whileF n c b ρ'
      | .bk ρ' => some (.nx ρ')
      | .rt d ρ' => some (.rt d ρ')
      | .rn d ρ' => some (.rn d ρ')
      | .xx x ρ' => some (.xx x ρ')) else some (.nx p.2)
open Classical in
noncomputable def mWhile (c : MT) (b : MS) : MS := fun ρ => if h : ∃ n, ∃ o, whileF n c b ρ = some o then some h.choose_spec.choose else none
end
/-! ### what is walked -/
def WalkD (K : Kf) (L : List (Addr × HO)) (F : Hp) (J : It) (ds : List D) : Prop := ∃ C Y, Walk J ds.length C Y ∧ (∀ F2 H, Le F F2 → Sub F2 H → (∀ q ∈ L, H q.1 = some q.2) → C H) ∧
  ∀ (i : Nat) F2 H x H', i < ds.length → Le F F2 → Sub F2 H → Y i H x H' → ∃ d F3, ds[i]? = some d ∧ Nw F2 H F3 H' ∧ R K F3 x d
abbrev MI := En → Option (List D × En)
def tI (K : Kf) (m : MI) : TI := fun σ H Q => ∃ G F ρ, Rel K G F H σ ρ ∧ ∃ ds ρ', m ρ = some (ds, ρ') ∧ ∀ F' H' J, Le F F' → Rel K G F' H' σ ρ' → WalkD K G.Lk F' J ds → Q J H'
abbrev DI (X : Cx) (tg it : Expr) (m : MI) : Prop := PI X tg it (tI X.K m)
theorem piImp {X : Cx} {tg e : Expr} {t t' : TI} (h : PI X tg e t) (i : ∀ σ H Q, t' σ H Q → t σ H Q) : PI X tg e t' := ⟨fun pins s σ H Q I hw => h.run pins s σ H Q I (i _ _ _ hw)⟩
theorem piOr {X : Cx} {tg e : Expr} {t t' : TI} (h : PI X tg e t) (h' : PI X tg e t') : PI X tg e (fun σ H Q => t σ H Q ∨ t' σ H Q) := ⟨fun pins s σ H Q I hw => hw.elim (h.run pins s σ H Q I) (h'.run pins s σ H Q I)⟩
def forL (g : MG) (b : MS) : List D → En → Option Out
  | [], ρ => some (.nx ρ)
  | d :: ds, ρ => (g d ρ).bind fun ρ1 => (b ρ1).bind fun o => match o with
    | .nx ρ2 => forL g b ds ρ2
    | .ct ρ2 => forL g b ds ρ2
    | .bk ρ2 => some (.nx ρ2)
    | .rt d ρ2 => some (.rt d ρ2)
    | .rn d ρ2 => some (.rn d ρ2)
    | .xx x ρ2 => some (.xx x ρ2)
def mFor (mi : MI) (g : MG) (b : MS) : MS := fun ρ => (mi ρ).bind fun p => forL g b p.1 p.2
theorem ds_for {X : Cx} {ws : List Nat} {tg iter : Expr} {body : List Stmt} {mi : MI} {g : MG} {mb : MS} {pos : Pos} (hp : PassesOwn (model X.prog X.w) X.A X.env X.xe) (hc : X.calm = true) (hi : DI X tg iter mi) (hg : DG X tg ws g) (hb : DSs X body mb)
    (hs : ∀ x, foldedSetIterable iter X.env x = pure x := by intro _; rfl) : DS X (.For tg iter body [] pos) (mFor mi g mb) := psImp (ps_for hp hc hi hg hb hs) fun T σ H ⟨G, F, ρ, I, o, e, k⟩ => by
  obtain ⟨⟨ds, ρ1⟩, e1, e⟩ := Option.bind_eq_some_iff.mp e
  refine ⟨G, F, ρ, I, ds, ρ1, e1, fun F1 H1 J l1 I1 ⟨C, Y, wk, hC, hY⟩ => ?_⟩
  refine for_it wk (fun i σ H => ∃ F2 ρ2, Le F1 F2 ∧ Rel X.K G F2 H σ ρ2 ∧ forL g mb (ds.drop i) ρ2 = some o) ⟨F1, ρ1, Same.refl _, I1, e⟩ (fun i σ H hi ⟨F2, ρ2, l2, I2, e2⟩ => hC F2 H l2 I2.sub fun q hq => (I2.lk q hq).1) (fun i x σ2 H2 H2' hi ⟨F2, ρ2, l2, I2, e2⟩ y => ?_) (fun σ2 H2 ⟨F2, ρ2, l2, I2, e2⟩ => ?_)
  · obtain ⟨d, F3, ed, nw, r⟩ := hY i F2 H2 x H2' hi l2 I2.sub y
    have hd : ds.drop i = d :: ds.drop (i + 1) := by
      rw [List.drop_eq_getElem_cons hi]
      rw [List.getElem?_eq_getElem hi] at ed
      rw [Option.some.inj ed]
    rw [hd] at e2
    unfold forL at e2
    obtain ⟨ρ3, e3, e2⟩ := Option.bind_eq_some_iff.mp e2
    obtain ⟨q, e4, e5⟩ := Option.bind_eq_some_iff.mp e2
    have I3 := I2.nw nw
    have l3 : Le F F3 := (l1.trans l2).trans nw.le
    refine ⟨G, F3, ρ2, d, I3, r, ρ3, e3, fun σ4 I4 _ => ⟨G, F3, ρ3, I4, q, e4, ?_⟩⟩
    cases q with
    | nx ρ' => exact fun F4 H4 σ4 l4 I4 => ⟨F4, ρ', (l2.trans nw.le).trans l4, I4, e5⟩
    | ct ρ' => exact fun F4 H4 σ4 l4 I4 => ⟨F4, ρ', (l2.trans nw.le).trans l4, I4, e5⟩
    | bk ρ' => cases e5; exact fun F4 H4 σ4 l4 I4 => k F4 H4 σ4 (l3.trans l4) I4
    | rt d ρ' => cases e5; exact fun F4 H4 σ4 v l4 I4 => k F4 H4 σ4 v (l3.trans l4) I4
    | rn d ρ' => cases e5; exact fun F4 H4 σ4 v l4 I4 => k F4 H4 σ4 v (l3.trans l4) I4
    | xx x ρ' => cases e5; exact fun F4 H4 σ4 c d l4 I4 => k F4 H4 σ4 c d (l3.trans l4) I4
  · rw [List.drop_length] at e2
    cases e2
    exact k F2 H2 σ2 (l1.trans l2) I2
end DL

set_option Elab.async false
set_option linter.all false
set_option maxRecDepth 100000
set_option maxHeartbeats 4000000
namespace DL
open PySem PySem.Spec PyProof.Rows L2

/-! ### list comprehensions -/
def wipeE (ρ : En) : List Nat → En
  | [] => ρ
  | v :: vs => (wipeE ρ vs).set v none
def unw (ρ ρ4 : En) : List Nat → En
  | [] => ρ4
  | v :: vs => (unw ρ ρ4 vs).set v (ρ.getD v none)
def okW (vs : List Nat) (ρ : En) : Bool := vs.all fun v => match ρ[v]? with
  | some (some (.ow _ _)) => false
  | _ => true
theorem okW_not {vs : List Nat} {ρ : En} (h : okW vs ρ = true) {v : Nat} (hv : v ∈ vs) (b : Bool) (d : D) : ρ[v]? ≠ some (some (.ow b d)) := fun e => by
  have := List.all_eq_true.mp h v hv
  rw [e] at this
  cases this
theorem wipeE_length (ρ : En) : ∀ vs : List Nat, (wipeE ρ vs).length = ρ.length
  | [] => rfl
  | v :: vs => by unfold wipeE; rw [List.length_set, wipeE_length ρ vs]
theorem wipeE_out {ρ : En} {i : Nat} : ∀ {vs : List Nat}, i ∉ vs → (wipeE ρ vs)[i]? = ρ[i]?
  | [], _ => rfl
  | v :: vs, h => by
    unfold wipeE
    rw [List.getElem?_set_ne (fun z => h (by rw [z]; exact List.mem_cons_self)), wipeE_out fun z => h (List.mem_cons_of_mem _ z)]
theorem wipeE_some {ρ : En} {i : Nat} {x : DV} : ∀ {vs : List Nat}, (wipeE ρ vs)[i]? = some (some x) → ρ[i]? = some (some x) ∧ i ∉ vs
  | [], h => ⟨h, by simp⟩
  | v :: vs, h => by
    unfold wipeE at h
    rcases get_set h with ⟨_, z, _⟩ | ⟨n, z⟩
    · cases z
    · obtain ⟨h1, h2⟩ := wipeE_some z
      exact ⟨h1, by simp only [List.mem_cons, not_or]; exact ⟨n, h2⟩⟩
theorem unw_length (ρ ρ4 : En) : ∀ vs : List Nat, (unw ρ ρ4 vs).length = ρ4.length
  | [] => rfl
  | v :: vs => by unfold unw; rw [List.length_set, unw_length ρ ρ4 vs]
theorem unw_out {ρ ρ4 : En} {i : Nat} : ∀ {vs : List Nat}, i ∉ vs → (unw ρ ρ4 vs)[i]? = ρ4[i]?
  | [], _ => rfl
  | v :: vs, h => by
    unfold unw
    rw [List.getElem?_set_ne (fun z => h (by rw [z]; exact List.mem_cons_self)), unw_out fun z => h (List.mem_cons_of_mem _ z)]
theorem unw_in {ρ ρ4 : En} {i : Nat} (hl : ρ4.length = ρ.length) : ∀ {vs : List Nat}, i ∈ vs → (unw ρ ρ4 vs)[i]? = ρ[i]?
  | [], h => by cases h
  | v :: vs, h => by
    unfold unw
    by_cases e : i = v
    · subst e
      by_cases hi : i < ρ.length
      · rw [List.getElem?_set_self (by rw [unw_length, hl]; exact hi)]
        simp [hi]
      · rw [List.getElem?_eq_none (by rw [List.length_set, unw_length, hl]; omega), List.getElem?_eq_none (by omega)]
    · rw [List.getElem?_set_ne (Ne.symm e)]
      exact unw_in hl (List.mem_of_ne_of_mem e h)
theorem okW_unw {vs : List Nat} {ρ ρ4 : En} (hl : ρ4.length = ρ.length) (h : okW vs ρ = true) : okW vs (unw ρ ρ4 vs) = true := by
  refine List.all_eq_true.mpr fun v hv => ?_
  rw [unw_in hl hv]
  exact List.all_eq_true.mp h v hv
section
variable {K : Kf} {G : Gh} {F H : Hp} {σ : L2.St} {ρ : En}
theorem Rel.wipe {vs : List Nat} (I : Rel K G F H σ ρ) (ok : okW vs ρ = true) : Rel K G F H (wipe σ vs) (wipeE ρ vs) := by
  have g : ∀ {i : Nat} {dv : DV}, (wipeE ρ vs)[i]? = some (some dv) → ρ[i]? = some (some dv) ∧ (L2.wipe σ vs)[i]? = σ[i]? := fun e => by
    obtain ⟨h1, h2⟩ := wipeE_some e
    exact ⟨h1, wipe_out h2⟩
  refine ⟨I.sub, by rw [wipe_length, wipeE_length, I.len], fun i dv e => ?_, fun i j b c d1 d2 p ij e1 e2 e3 e4 => ?_, I.keep, I.grow, I.low, fun q hq => ?_, I.lk, fun q hq => ?_, I.bx, I.nn.step (Same.refl _) (fun i b ds e => g e) (fun _ _ _ _ _ _ => rfl) (fun a ha => ⟨rfl, (I.nn.ni ha).1, (I.nn.ni ha).2.2.1⟩) rfl rfl fun j c e a e1 e2 => .inl ⟨c, e, (g e1).1, by rw [← (g e1).2]; exact e2⟩⟩
  · rw [(g e).2]; exact I.slot i dv (g e).1
  · rw [(g e1).2] at e3
    rw [(g e2).2] at e4
    exact I.dis i j b c d1 d2 p ij (g e1).1 (g e2).1 e3 e4
  · obtain ⟨d, h1, h2⟩ := I.bor q hq
    have ni : q.1 ∉ vs := fun z => okW_not ok z _ _ h1
    exact ⟨d, by rw [wipeE_out ni]; exact h1, by rw [wipe_out ni]; exact h2⟩
  · obtain ⟨h1, h2, h3⟩ := I.pn q hq
    exact ⟨h1, h2, fun i b d e => by rw [(g e).2]; exact h3 i b d (g e).1⟩
theorem Rel.unw {vs : List Nat} {F2 H2 : Hp} {σ2 : L2.St} {ρ2 : En} (I : Rel K G F H σ ρ) (ok : okW vs ρ = true) (I2 : Rel K G F2 H2 σ2 ρ2) (le : Le F F2) (hw : L2.wipe σ2 vs = L2.wipe σ vs) (hl : ρ2.length = ρ.length) :
    Rel K G F2 H2 σ (unw ρ ρ2 vs) := by
  have hs : ∀ {i : Nat}, i ∉ vs → σ2[i]? = σ[i]? := fun {i} h => by rw [← wipe_out (σ := σ2) h, hw, wipe_out h]
  have g : ∀ {i : Nat} {b : Bool} {d : D}, (DL.unw ρ ρ2 vs)[i]? = some (some (.ow b d)) → i ∉ vs ∧ ρ2[i]? = some (some (.ow b d)) ∧ σ2[i]? = σ[i]? := fun {i b d} e => by
    by_cases hi : i ∈ vs
    · rw [unw_in hl hi] at e; exact absurd e (okW_not ok hi _ _)
    · rw [unw_out hi] at e; exact ⟨hi, e, hs hi⟩
  refine ⟨I2.sub, by rw [unw_length, hl, I.len], fun i dv e => ?_, fun i j b c d1 d2 p ij e1 e2 e3 e4 => ?_, I2.keep, I2.grow, I2.low, fun q hq => ?_, I2.lk, fun q hq => ?_, I2.bx, I2.nn.step (Same.refl _) (fun i b ds e => ⟨(g e).2.1, (g e).2.2.symm⟩) (fun _ _ _ _ _ _ => rfl) (fun a ha => ⟨rfl, (I2.nn.ni ha).1, (I2.nn.ni ha).2.2.1⟩) rfl rfl fun j c e a e1 e2 => .inl ⟨c, e, (g e1).2.1, by rw [(g e1).2.2]; exact e2⟩⟩
  · by_cases hi : i ∈ vs
    · rw [unw_in hl hi] at e
      obtain ⟨v, h1, h2⟩ := I.slot i dv e
      refine ⟨v, h1, ?_⟩
      cases dv with
      | fz d => exact R.mono le h2
      | ow b d => exact absurd e (okW_not ok hi _ _)
    · rw [unw_out hi] at e
      rw [← hs hi]
      exact I2.slot i dv e
  · obtain ⟨_, a1, a2⟩ := g e1
    obtain ⟨_, b1, b2⟩ := g e2
    rw [← a2] at e3
    rw [← b2] at e4
    exact I2.dis i j b c d1 d2 p ij a1 b1 e3 e4
  · obtain ⟨d, h1, h2⟩ := I2.bor q hq
    obtain ⟨d0, h3, h4⟩ := I.bor q hq
    have ni : q.1 ∉ vs := fun z => okW_not ok z _ _ h3
    exact ⟨d, by rw [unw_out ni]; exact h1, h4⟩
  · obtain ⟨h1, h2, h3⟩ := I2.pn q hq
    exact ⟨h1, h2, fun i b d e => by rw [← (g e).2.2]; exact h3 i b d (g e).2.1⟩
/-- a thing that no slot holds, kept in mind -/
abbrev Gh.pin (G : Gh) (p : Addr) (o : List V) : Gh := { G with Pn := (p, ⟨.lst o, trivial⟩) :: G.Pn }
abbrev Gh.pinO (G : Gh) (p : Addr) (o : MutO) : Gh := { G with Pn := (p, o) :: G.Pn }
theorem Rel.pinO (I : Rel K G F H σ ρ) {p : Addr} {o : MutO} (h : H p = some o.1) (f : F p = none) (n : ∀ (i : Nat) (b : Bool) (d : D), ρ[i]? = some (some (.ow b d)) → σ[i]? ≠ some (some (.ref p))) (ni : ¬ NinI H σ ρ p) : Rel K (G.pinO p o) F H σ ρ :=
  ⟨I.sub, I.len, I.slot, I.dis, I.keep, I.grow, I.low, I.bor, I.lk, fun q hq => by
    rcases List.mem_cons.mp hq with rfl | hq
    · exact ⟨h, f, n⟩
    · exact I.pn q hq, I.bx, I.nn.step (Same.refl _) (fun i b ds e => ⟨e, rfl⟩) (fun _ _ _ _ _ _ => rfl) (fun a ha => ⟨rfl, (I.nn.ni ha).1, fun r hr => by
      rcases List.mem_cons.mp hr with rfl | hr
      · exact fun z => ni (by have z : p = a := z; rw [z]; exact ha)
      · exact (I.nn.ni ha).2.2.1 r hr⟩) rfl rfl fun j c e a e1 e2 => .inl ⟨c, e, e1, e2⟩⟩
theorem Rel.unpinO {p : Addr} {o : MutO} (I : Rel K (G.pinO p o) F H σ ρ) : Rel K G F H σ ρ :=
  ⟨I.sub, I.len, I.slot, I.dis, I.keep, I.grow, I.low, I.bor, I.lk, fun q hq => I.pn q (List.mem_cons_of_mem _ hq), I.bx,
    I.nn.step (Same.refl _) (fun i b ds e => ⟨e, rfl⟩) (fun _ _ _ _ _ _ => rfl) (fun a ha => ⟨rfl, (I.nn.ni ha).1, fun r hr => (I.nn.ni ha).2.2.1 r (List.mem_cons_of_mem _ hr)⟩) rfl rfl fun j c e a e1 e2 => .inl ⟨c, e, e1, e2⟩⟩
/-- such a thing changes -/
theorem Rel.poke (I : Rel K G F H σ ρ) {p : Addr} {o : HO} (f : F p = none) (h0 : G.H0 p = none) (n : ∀ (i : Nat) (b : Bool) (d : D), ρ[i]? = some (some (.ow b d)) → σ[i]? ≠ some (some (.ref p))) (hq : ∀ q ∈ G.Pn, q.1 ≠ p) (ni : ¬ NinI H σ ρ p) (H' : Hp) (hs : ∀ a, a ≠ p → H' a = H a) : Rel K G F H' σ ρ := by
  refine ⟨fun a x e => ?_, I.len, fun i dv e => ?_, I.dis, fun a x e hb => ?_, I.grow, I.low, I.bor, fun q hq2 => ?_, fun q hq2 => ?_, fun q hq2 => ?_, ?_⟩
  · have ne : a ≠ p := fun z => by subst z; rw [f] at e; cases e
    rw [hs a ne]; exact I.sub a x e
  · obtain ⟨v, h1, h2⟩ := I.slot i dv e
    refine ⟨v, h1, ?_⟩
    cases dv with
    | fz d => exact h2
    | ow b d =>
      obtain ⟨p2, e2, f2, ob2, w3, w4⟩ := h2
      have ne : p2 ≠ p := fun z => n i b d e (by rw [h1, e2, z])
      exact ⟨p2, e2, f2, ob2.mono (Same.refl _) (hs p2 ne), w3, w4⟩
  · have ne : a ≠ p := fun z => by subst z; rw [h0] at e; cases e
    rw [hs a ne]; exact I.keep a x e hb
  · obtain ⟨h1, h2⟩ := I.lk q hq2
    have ne : q.1 ≠ p := fun z => h2 (by rw [z]; exact f)
    exact ⟨by rw [hs _ ne]; exact h1, h2⟩
  · obtain ⟨h1, h2, h3⟩ := I.pn q hq2
    exact ⟨by rw [hs _ (hq q hq2)]; exact h1, h2, h3⟩
  · obtain ⟨h1, h2, h3⟩ := I.bx q hq2
    have ne : q ≠ p := fun z => h1 (by rw [z]; exact h0)
    exact ⟨h1, h2, by rw [hs q ne]; exact h3⟩
  · exact I.nn.step (Same.refl _) (fun i b ds e => ⟨e, rfl⟩) (fun i b ds p1 e1 e2 => hs p1 fun z => n i b _ e1 (by rw [e2, z])) (fun a ha => ⟨hs a fun z => ni (z ▸ ha), (I.nn.ni ha).1, (I.nn.ni ha).2.2.1⟩) rfl rfl fun j c e a e1 e2 => .inl ⟨c, e, e1, e2⟩
/-- a new thing is pinned -/
theorem Rel.pinNew (I : Rel K G F H σ ρ) {p : Addr} (hp : H p = none) (o : MutO) : Rel K (G.pinO p o) F (upd H p o.1) σ ρ := by
  refine (I.nw (Nw.lay I.sub hp)).pinO upd_same (I.sub.free hp) (fun i b d e z => ?_) fun ⟨i1, b1, ds, p1, vs, h1, h2, h3, h4⟩ => ?_
  · obtain ⟨v, h1, p', e1, _, ob', _⟩ := I.slot i _ e
    rw [z] at h1; cases h1; cases e1
    obtain ⟨o', e2, _⟩ := ob'.has
    rw [hp] at e2; cases e2
  · obtain ⟨vs', h5, _⟩ := I.nn i1 b1 ds p1 h1 h2
    have ne : p1 ≠ p := ne_of_none h5 hp
    rw [upd_ne ne] at h3
    exact I.nin hp ⟨i1, b1, ds, p1, vs, h1, h2, h3, h4⟩
theorem Rel.pinNi {p : Addr} {o : MutO} (I : Rel K (G.pinO p o) F H σ ρ) : ¬ NinI H σ ρ p := fun n => (I.nn.ni n).2.2.1 _ List.mem_cons_self rfl
/-- a pinned thing is other, or none -/
theorem Rel.unpoke {p : Addr} {o : MutO} (I : Rel K (G.pinO p o) F H σ ρ) (h0 : G.H0 p = none) (hq : ∀ q ∈ G.Pn, q.1 ≠ p) (H' : Hp) (hs : ∀ a, a ≠ p → H' a = H a) : Rel K G F H' σ ρ := by
  obtain ⟨_, f, n⟩ := I.pn _ List.mem_cons_self
  exact I.unpinO.poke (o := o.1) f h0 n hq I.pinNi H' hs
theorem Rel.repin {p : Addr} {o : MutO} (I : Rel K (G.pinO p o) F H σ ρ) (h0 : G.H0 p = none) (hq : ∀ q ∈ G.Pn, q.1 ≠ p) (o' : MutO) : Rel K (G.pinO p o') F (upd H p o'.1) σ ρ := by
  obtain ⟨_, f, n⟩ := I.pn _ List.mem_cons_self
  refine (I.unpoke h0 hq (upd H p o'.1) fun a ha => upd_ne ha).pinO upd_same f n fun ⟨i1, b1, ds, p1, vs, h1, h2, h3, h4⟩ => ?_
  have ne : p1 ≠ p := fun z => n i1 b1 _ h1 (by rw [h2, z])
  rw [upd_ne ne] at h3
  exact I.pinNi ⟨i1, b1, ds, p1, vs, h1, h2, h3, h4⟩
end
theorem wipe_wipe {σ : L2.St} {vs : List Nat} : L2.wipe (L2.wipe σ vs) vs = L2.wipe σ vs := by
  apply List.ext_getElem?
  intro i
  by_cases hi : i ∈ vs
  · have z : ∀ τ : L2.St, ∀ v, (L2.wipe τ vs)[i]? ≠ some (some v) := fun τ v e => (wipe_some e).2 hi
    have zl : ∀ τ : L2.St, i < τ.length → (L2.wipe τ vs)[i]? = some none := fun τ h => by
      rw [← wipe_length τ vs] at h
      cases q : (L2.wipe τ vs)[i]? with
      | none => rw [List.getElem?_eq_none_iff] at q; omega
      | some x =>
        cases x with
        | none => rfl
        | some v => exact absurd q (z τ v)
    by_cases hl : i < σ.length
    · rw [zl σ hl, zl _ (by rw [wipe_length]; exact hl)]
    · rw [List.getElem?_eq_none (by rw [wipe_length, wipe_length]; omega), List.getElem?_eq_none (by rw [wipe_length]; omega)]
  · rw [wipe_out hi]
def cap : Nat := 1000000
theorem cap_lt {n : Nat} (h : n < cap) : n < sizeLine := Nat.lt_of_lt_of_le h (by rw [sizeLine_eq]; decide)
theorem cap_le {n : Nat} (h : n ≤ cap) : n ≤ sizeLine := Nat.le_trans h (by rw [sizeLine_eq]; decide)
def lcL (g : MG) (vs : List Nat) (mt : MT) (me : ME) : List D → En → Option (List D × En)
  | [], ρ => some ([], ρ)
  | d :: ds, ρ => (g d (wipeE ρ vs)).bind fun ρ1 => (mt ρ1).bind fun p => if p.1 = true then (me p.2).bind (fun q => (frR q.1 q.2).bind fun x => if x.2.length = ρ.length then (lcL g vs mt me ds (unw ρ x.2 vs)).bind fun y => some (x.1 :: y.1, y.2) else none)
      else if p.2.length = ρ.length then lcL g vs mt me ds (unw ρ p.2 vs) else none
def mLc (mi : MI) (g : MG) (vs : List Nat) (mt : MT) (me : ME) : MO := fun ρ => (mi ρ).bind fun p => if okW vs p.2 = true ∧ p.1.length ≤ cap then (lcL g vs mt me p.1 p.2).bind fun q => some (.newL q.1, q.2) else none
theorem lc_of {K : Kf} {mi : MI} {g : MG} {tg : TG} {vs : List Nat} {mt : MT} {me : ME} {σ : L2.St} {H : Hp} {Q : VK}
    (hg : ∀ G F H σ ρ d v ρ' Q, Rel K G F H σ ρ → R K F v d → g d ρ = some ρ' → (∀ σ', Rel K G F H σ' ρ' → L2.wipe σ' vs = L2.wipe σ vs → Q σ' H) → tg v σ H Q)
    (w : tO K (mLc mi g vs mt me) σ H Q) : tLc (tI K mi) tg (tT K mt) (tE K me) vs σ H Q := by
  obtain ⟨G, F, ρ, I, o, ρ', e, k⟩ := w
  obtain ⟨⟨ds, ρ1⟩, e1, e⟩ := Option.bind_eq_some_iff.mp e
  dsimp only at e
  split at e
  case isFalse => cases e
  case isTrue hok =>
  obtain ⟨hW, hcap⟩ := hok
  obtain ⟨⟨tot, ρ9⟩, e9, e⟩ := Option.bind_eq_some_iff.mp e
  cases e
  refine ⟨G, F, ρ, I, ds, ρ1, e1, fun F1 H1 J l1 I1 ⟨C, Y, wk, hC, hY⟩ D hD => ?_⟩
  have h0D : G.H0 D = none := I1.fresh hD
  have noD : ∀ {F2 : Hp} {H2 : Hp} {ρ2 : En}, Rel K G F2 H2 σ ρ2 → H2 D = none → ∀ (i : Nat) (b : Bool) (d : DL.D), ρ2[i]? = some (some (.ow b d)) → σ[i]? ≠ some (some (.ref D)) := fun {F2 H2 ρ2} I2 hn i b d e z => by
    obtain ⟨v, h1, p', e1, _, ob', _⟩ := I2.slot i _ e
    rw [z] at h1; cases h1; cases e1
    obtain ⟨o', e2, _⟩ := ob'.has
    rw [hn] at e2; cases e2
  have pnD : ∀ q ∈ G.Pn, q.1 ≠ D := fun q hq z => by
    have := (I1.pn q hq).1
    rw [z, hD] at this; cases this
  refine lc_it wk (fun i H => ∃ F2 ρ2 acc accv rest, Le F1 F2 ∧ Rel K (G.pin D accv) F2 H σ ρ2 ∧ RA K F2 accv acc ∧ acc.length ≤ i ∧ okW vs ρ2 = true ∧ lcL g vs mt me (ds.drop i) ρ2 = some (rest, ρ9) ∧ acc ++ rest = tot)
    ⟨F1, ρ1, [], [], tot, Same.refl _, ?_, .nil, Nat.le_refl _, hW, e9, rfl⟩ (fun i H hi ⟨F2, ρ2, acc, accv, rest, l2, I2, _⟩ => hC F2 H l2 I2.sub fun q hq => (I2.lk q hq).1) (fun i x H2 H2' hi ⟨F2, ρ2, acc, accv, rest, l2, I2, ra, hl, ok2, e2, et⟩ y => ?_) (fun H2 ⟨F2, ρ2, acc, accv, rest, l2, I2, ra, hl, ok2, e2, et⟩ => ?_)
  · exact I1.pinNew hD ⟨.lst [], trivial⟩
  · obtain ⟨d, F3, ed, nw, r⟩ := hY i F2 H2 x H2' hi l2 I2.sub y
    have hd : ds.drop i = d :: ds.drop (i + 1) := by
      rw [List.drop_eq_getElem_cons hi]
      rw [List.getElem?_eq_getElem hi] at ed
      rw [Option.some.inj ed]
    rw [hd] at e2
    unfold lcL at e2
    obtain ⟨ρ3, e3, e2⟩ := Option.bind_eq_some_iff.mp e2
    obtain ⟨⟨b, ρ4⟩, e4, e5⟩ := Option.bind_eq_some_iff.mp e2
    have I3 := I2.nw nw
    refine hg (G.pin D accv) F3 H2' (L2.wipe σ vs) (wipeE ρ2 vs) d x ρ3 _ (I3.wipe ok2) r e3 fun σ4 I4 hw4 => ⟨?_, G.pin D accv, F3, ρ3, I4, b, ρ4, e4, fun F5 H5 l5 I5 => ?_⟩
    · rw [hw4]
      exact wipe_wipe
    have hw5 : L2.wipe σ4 vs = L2.wipe σ vs := by rw [hw4]; exact wipe_wipe
    cases b with
    | false =>
      dsimp only at e5
      rw [if_neg (by decide)] at e5
      split at e5
      · rename_i hlen
        have l35 : Le F2 F5 := nw.le.trans l5
        refine ⟨F5, DL.unw ρ2 ρ4 vs, acc, accv, rest, l2.trans l35, ?_, ra.mono l35, by omega, okW_unw hlen ok2, e5, et⟩
        exact I2.unw ok2 I5 l35 hw5 hlen
      · cases e5
    | true =>
      dsimp only at e5
      rw [if_pos rfl] at e5
      obtain ⟨⟨r6, ρ6⟩, e6, e5⟩ := Option.bind_eq_some_iff.mp e5
      obtain ⟨⟨d7, ρ7⟩, e7, e5⟩ := Option.bind_eq_some_iff.mp e5
      dsimp only at e5
      split at e5
      · rename_i hlen
        obtain ⟨⟨rest2, ρ8⟩, e8, e5⟩ := Option.bind_eq_some_iff.mp e5
        cases e5
        refine ⟨G.pin D accv, F5, ρ4, I5, r6, ρ6, e6, fun F6 H6 v6 l6 I6 k6 => ?_⟩
        obtain ⟨F7, l7, I7, r7⟩ := I6.frR k6 e7
        obtain ⟨pa, pb, pc⟩ := I7.pn (D, ⟨.lst accv, trivial⟩) List.mem_cons_self
        have l27 : Le F2 F7 := ((nw.le.trans l5).trans l6).trans l7
        have lenA : accv.length = acc.length := ra.length
        have I8 : Rel K (G.pin D accv) F7 H6 σ (DL.unw ρ2 ρ7 vs) := I2.unw ok2 I7 l27 hw5 hlen
        have pc8 := (I8.pn (D, ⟨.lst accv, trivial⟩) List.mem_cons_self).2.2
        refine ⟨accv, pa, by rw [lenA]; exact cap_lt (by omega), F7, DL.unw ρ2 ρ7 vs, acc ++ [d7], accv ++ [v6], rest2, l2.trans l27, ?_, (ra.mono l27).append (.cons r7 .nil), by rw [List.length_append, List.length_singleton]; omega, okW_unw hlen ok2, e8, by rw [List.append_assoc]; exact et⟩
        exact Rel.repin (o := ⟨.lst accv, trivial⟩) I8 h0D pnD ⟨.lst (accv ++ [v6]), trivial⟩
      · cases e5
  · rw [List.drop_length] at e2
    cases e2
    rw [List.append_nil] at et
    subst et
    obtain ⟨pa, pb, pc⟩ := I2.pn (D, ⟨.lst accv, trivial⟩) List.mem_cons_self
    have hfx : H2 = upd (fun a => if a = D then none else H2 a) D (.lst accv) := by
      funext a
      by_cases ha : a = D
      · subst ha; rw [upd_same]; exact pa
      · rw [upd_ne ha, if_neg ha]
    have I3 : Rel K G F2 (fun a => if a = D then none else H2 a) σ _ := Rel.unpoke (o := ⟨.lst accv, trivial⟩) I2 h0D pnD _ fun a ha => if_neg ha
    have := k F2 _ (l1.trans l2) I3 D accv (by show (if D = D then none else H2 D) = none; rw [if_pos rfl]) ra
    rw [← hfx] at this
    exact this
theorem do_lc0 {X : Cx} {elt tg iter : Expr} {ifs : List Expr} {scope : Scope} {own : List (Str × Nat)} {pos : Pos} {mi : MI} {g : MG} {mt : MT} {me : ME} (hc : X.calm = true) (hN : X.N.Nodup) (hi : DI X tg iter mi) (ok : BlkOk X.N X.env.scope scope own)
    (hg : ∀ (s : Shared) (H : Hp) (C : Addr) (cl : List (Str × Addr)) (fp : List Addr), DG (X.blk s H scope (compEnvC scope cl C X.env) fp) tg (own.map (·.2)) g)
    (ht : ∀ (s : Shared) (H : Hp) (C : Addr) (cl : List (Str × Addr)) (fp : List Addr), PTs (X.blk s H scope (compEnvC scope cl C X.env) fp) ifs (tT X.K mt))
    (he : ∀ (s : Shared) (H : Hp) (C : Addr) (cl : List (Str × Addr)) (fp : List Addr), DE (X.blk s H scope (compEnvC scope cl C X.env) fp) elt me) (hs : ∀ x, foldedSetIterable iter X.env x = pure x := by intro _; rfl) :
    DO X (.ListComp elt [⟨tg, iter, ifs, 0⟩] scope pos) (mLc mi g (own.map (·.2)) mt me) :=
  peImp (pe_lc (g := tG X.K (own.map (·.2)) g) (tt := tT X.K mt) (te := tE X.K me) hc hN hi ok hg ht he hs) fun σ H Q w => lc_of (fun G F H σ ρ d v ρ' Q I r e k => ⟨G, F, ρ, d, I, r, ρ', e, k⟩) w
def mYes : MT := fun ρ => some (true, ρ)
theorem dts_nil {X : Cx} : PTs X [] (tT X.K mYes) := ⟨fun pins s σ H Q I ⟨G, F, ρ, I', b, ρ', e, k⟩ => by
  cases e
  exact pts_nil.run pins s σ H Q I (k F H (Same.refl _) I')⟩
theorem dts_one {X : Cx} {c : Expr} {m : MT} (h : DT X c m) : PTs X [c] (tT X.K m) := pts_one h
/-- name = [..] in the comprehension's own frame -/
theorem ds_setLc0 {X : Cx} {i : Nat} {y : Str} {py : Pos} {elt tg iter : Expr} {ifs : List Expr} {scope : Scope} {own : List (Str × Nat)} {pos spos : Pos} {mi : MI} {g : MG} {mt : MT} {me : ME} (hc : X.calm = true) (hN : X.N.Nodup) (hy : X.N[i]? = some y) (hyl : X.env.scope.names.lookup y = some .local)
    (hsw : swapsWith (.ListComp elt [⟨tg, iter, ifs, 0⟩] scope pos) (some (.Name y py)) spos.line X.env = pure true) (hi : DI X tg iter mi) (ok : BlkOk X.N X.env.scope scope own)
    (hg : ∀ (s : Shared) (H : Hp) (C : Addr) (cl : List (Str × Addr)) (fp : List Addr), DG (X.blk s H scope (compEnvC scope cl C X.env) fp) tg (own.map (·.2)) g)
    (ht : ∀ (s : Shared) (H : Hp) (C : Addr) (cl : List (Str × Addr)) (fp : List Addr), PTs (X.blk s H scope (compEnvC scope cl C X.env) fp) ifs (tT X.K mt))
    (he : ∀ (s : Shared) (H : Hp) (C : Addr) (cl : List (Str × Addr)) (fp : List Addr), DE (X.blk s H scope (compEnvC scope cl C X.env) fp) elt me) (hs : ∀ x, foldedSetIterable iter X.env x = pure x := by intro _; rfl) :
    DS X (.Assign [.Name y py] (.ListComp elt [⟨tg, iter, ifs, 0⟩] scope pos) spos) (mSetO i (mLc mi g (own.map (·.2)) mt me)) :=
  psImp (ps_setLc (g := tG X.K (own.map (·.2)) g) (tt := tT X.K mt) (te := tE X.K me) hc hN hy hyl hsw hi ok hg ht he hs) fun T σ H w => by
    have := setO_of w
    exact lc_of (fun G F H σ ρ d v ρ' Q I r e k => ⟨G, F, ρ, d, I, r, ρ', e, k⟩) this
theorem do_lc {X : Cx} {elt tg iter : Expr} {ifs : List Expr} {scope : Scope} {ws : List Nat} {pos : Pos} {mi : MI} {g : MG} {mt : MT} {me : ME} (own : List (Str × Nat)) (hc : X.calm = true) (hN : X.N.Nodup) (hi : DI X tg iter mi) (ok : BlkOk X.N X.env.scope scope own)
    (hg : ∀ (s : Shared) (H : Hp) (C : Addr) (cl : List (Str × Addr)) (fp : List Addr), DG (X.blk s H scope (compEnvC scope cl C X.env) fp) tg ws g)
    (ht : ∀ (s : Shared) (H : Hp) (C : Addr) (cl : List (Str × Addr)) (fp : List Addr), PTs (X.blk s H scope (compEnvC scope cl C X.env) fp) ifs (tT X.K mt))
    (he : ∀ (s : Shared) (H : Hp) (C : Addr) (cl : List (Str × Addr)) (fp : List Addr), DE (X.blk s H scope (compEnvC scope cl C X.env) fp) elt me) (hw : own.map (·.2) = ws := by rfl) (hs : ∀ x, foldedSetIterable iter X.env x = pure x := by intro _; rfl) :
    DO X (.ListComp elt [⟨tg, iter, ifs, 0⟩] scope pos) (mLc mi g ws mt me) := by subst hw; exact do_lc0 hc hN hi ok hg ht he hs
theorem ds_setLc {X : Cx} {i : Nat} {y : Str} {py : Pos} {elt tg iter : Expr} {ifs : List Expr} {scope : Scope} {ws : List Nat} {pos spos : Pos} {mi : MI} {g : MG} {mt : MT} {me : ME} (own : List (Str × Nat)) (hc : X.calm = true) (hN : X.N.Nodup) (hy : X.N[i]? = some y) (hyl : X.env.scope.names.lookup y = some .local)
    (hsw : swapsWith (.ListComp elt [⟨tg, iter, ifs, 0⟩] scope pos) (some (.Name y py)) spos.line X.env = pure true) (hi : DI X tg iter mi) (ok : BlkOk X.N X.env.scope scope own)
    (hg : ∀ (s : Shared) (H : Hp) (C : Addr) (cl : List (Str × Addr)) (fp : List Addr), DG (X.blk s H scope (compEnvC scope cl C X.env) fp) tg ws g)
    (ht : ∀ (s : Shared) (H : Hp) (C : Addr) (cl : List (Str × Addr)) (fp : List Addr), PTs (X.blk s H scope (compEnvC scope cl C X.env) fp) ifs (tT X.K mt))
    (he : ∀ (s : Shared) (H : Hp) (C : Addr) (cl : List (Str × Addr)) (fp : List Addr), DE (X.blk s H scope (compEnvC scope cl C X.env) fp) elt me) (hw : own.map (·.2) = ws := by rfl) (hs : ∀ x, foldedSetIterable iter X.env x = pure x := by intro _; rfl) :
    DS X (.Assign [.Name y py] (.ListComp elt [⟨tg, iter, ifs, 0⟩] scope pos) spos) (mSetO i (mLc mi g ws mt me)) := by subst hw; exact ds_setLc0 hc hN hy hyl hsw hi ok hg ht he hs
end DL

set_option Elab.async false
set_option linter.all false
set_option maxRecDepth 100000
set_option maxHeartbeats 4000000
namespace DL
open PySem PySem.Spec PyProof.Rows L2

/-! ### defs: all arguments frozen -/
def spP (K : Kf) (n : Nat) (mf : List D → Option D) : Sp := fun vs H Q _ => vs.length = n ∧ ∃ F ds, Sub F H ∧ RA K F vs ds ∧ ∃ r, mf ds = some r ∧
  ∀ F' H' v, Nw F H F' H' → R K F' v r → Q v H'
def en0 (N : Nat) (ds : List D) : En := ds.map (fun d => some (.fz d)) ++ List.replicate (N - ds.length) none
def fnP (N : Nat) (m : MS) : List D → Option D := fun ds => (m (en0 N ds)).bind fun o => match o with
  | .rt d _ => some d
  | .nx _ => some .non
  | _ => none
def gh0 (H F : Hp) (B : List (Nat × Addr)) (Bx : List Addr := []) : Gh := ⟨H, F, B, [], [], Bx⟩
theorem nones {n i : Nat} {α : Type} {x : α} : (List.replicate n (none : Option α))[i]? ≠ some (some x) := fun e => by
  have := List.mem_of_getElem? e
  rw [List.mem_replicate] at this
  cases this.2
theorem en0_get {N : Nat} {ds : List D} {i : Nat} {dv : DV} (h : (en0 N ds)[i]? = some (some dv)) : ∃ d, ds[i]? = some d ∧ dv = .fz d := by
  unfold en0 at h
  by_cases hi : i < ds.length
  · rw [List.getElem?_append_left (by simpa using hi), List.getElem?_map, List.getElem?_eq_getElem hi] at h
    cases h
    exact ⟨ds[i], by simp [hi], rfl⟩
  · rw [List.getElem?_append_right (by simpa using hi)] at h
    exact absurd h nones
theorem start_get {N : List Str} {vs : List V} {i : Nat} {v : V} (h : vs[i]? = some v) : (L2.start N vs)[i]? = some (some v) := by
  unfold L2.start
  have hi := (List.getElem?_eq_some_iff.mp h).1
  rw [List.getElem?_append_left (by simpa using hi), List.getElem?_map, h]
  rfl
theorem start_rel {K : Kf} {N : List Str} {H F : Hp} {vs : List V} {ds : List D} (s : Sub F H) (r : RA K F vs ds) : Rel K (gh0 H F []) F H (L2.start N vs) (en0 N.length ds) := by
  refine ⟨s, ?_, fun i dv e => ?_, fun i j b c d e p ij e1 => ?_, fun a o e _ => .inl e, fun a o e => .inl e, Same.refl _, fun q hq => (nomatch hq), fun q hq => (nomatch hq), fun q hq => (nomatch hq), fun q hq => (nomatch hq), fun i b ds p e1 _ => by obtain ⟨_, _, z⟩ := en0_get e1; cases z⟩
  · unfold L2.start en0
    simp [r.length]
  · obtain ⟨d, e1, rfl⟩ := en0_get e
    obtain ⟨v, h1, h2⟩ := r.get e1
    exact ⟨v, start_get h1, h2⟩
  · obtain ⟨d, _, z⟩ := en0_get e1
    cases z
section
variable {P : Program} {w : World} {K : Kf} {mg : Str → Option Value} {base : Heap}
theorem fn_ok0 {x qual : Str} {st : Stmt} {f : Addr} {fd : FuncData} {N ps : List Str} {k : Nat} {m : MS} (F : Fun K x qual st f fd) (S : FnScope N ps (defScope st))
    (hb : ∀ (cdv : Value) (A : Around) (outer : List PySem.Env) (s : Shared) (H : Hp) (E : XK), Room k (A.deeper (envOfC qual (defScope st) s.heap.objs.size f cdv)) →
      DSs (cxOf CX0 P w K mg base N qual (defScope st) f cdv A outer s H E).nox (defBody st) m) : FnOk P w K mg base CX0 (k + 1) f fd ps (spP K ps.length (fnP N.length m)) := by
  refine F.ok S (fun vs H Q E h => h.1) (fun cdv A outer s H vs Q E hr h => ⟨_, hb cdv A outer s H E hr, ?_⟩)
  obtain ⟨hl, Fz, ds, sub, r, d, e, k⟩ := h
  obtain ⟨o, e1, e2⟩ := Option.bind_eq_some_iff.mp e
  refine ⟨gh0 H Fz [], Fz, en0 N.length ds, start_rel sub r, o, e1, ?_⟩
  have fin : ∀ F' H' σ' ρ', Le Fz F' → Rel K (gh0 H Fz []) F' H' σ' ρ' → Nw Fz H F' H' := fun F' H' σ' ρ' l I => ⟨I.sub, l, I.grow, fun a o h => by
    rcases I.keep a o h (by simp [gh0]) with z | ⟨ob, _, z⟩
    · exact z
    · exact nomatch z⟩
  cases o with
  | nx ρ' => cases e2; exact fun F' H' σ' l I => k F' H' .non (fin _ _ _ _ l I) .non
  | rt d' ρ' => cases e2; exact fun F' H' σ' v l I r => k F' H' v (fin _ _ _ _ l I) r
  | rn d' ρ' => cases e2
  | bk ρ' => cases e2
  | ct ρ' => cases e2
  | xx x ρ' => cases e2
end
/-- the arguments, frozen -/
def frs (rs : List RV) (ρ : En) : Option (List D × En) := match rs with
  | [] => some ([], ρ)
  | r :: rs => (frR r ρ).bind fun p => (frs rs p.2).bind fun q => some (p.1 :: q.1, q.2)
theorem Rel.frs {K : Kf} {G : Gh} {H : Hp} {σ : L2.St} : ∀ {rs : List RV} {F : Hp} {ρ ρ' : En} {ds : List D} {vs : List V}, Rel K G F H σ ρ → RVs K F σ vs rs → DL.frs rs ρ = some (ds, ρ') → ∃ F', Le F F' ∧ Rel K G F' H σ ρ' ∧ RA K F' vs ds
  | [], F, ρ, ρ', ds, vs, I, k, h => by
    cases h
    cases k
    exact ⟨F, Same.refl _, I, .nil⟩
  | r :: rs, F, ρ, ρ', ds, vs, I, k, h => by
    unfold DL.frs at h
    obtain ⟨⟨d, ρ1⟩, e1, e⟩ := Option.bind_eq_some_iff.mp h
    obtain ⟨⟨ds2, ρ2⟩, e2, e⟩ := Option.bind_eq_some_iff.mp e
    cases e
    cases k with
    | cons k ks =>
      obtain ⟨F1, l1, I1, r1⟩ := I.frR k e1
      obtain ⟨F2, l2, I2, r2⟩ := Rel.frs I1 (ks.mono l1) e2
      exact ⟨F2, l1.trans l2, I2, .cons (r1.mono l2) r2⟩
theorem RVs.length {K : Kf} {F : Hp} {σ : L2.St} : ∀ {vs : List V} {rs : List RV}, RVs K F σ vs rs → vs.length = rs.length
  | _, _, .nil => rfl
  | _, _, .cons _ t => by rw [List.length_cons, List.length_cons, RVs.length t]
def newO : D → Option O1
  | .lst ds => some (.newL ds)
  | .dic kv => some (.newK kv)
  | .dit kv => some (.newI kv)
  | _ => none
def mCallN (mf : List D → Option D) (ma : MA) : MO := fun ρ => (ma ρ).bind fun p => (frs p.1 p.2).bind fun q => (mf q.1).bind fun r => (newO r).bind fun o => some (o, q.2)
def mCall (mf : List D → Option D) (ma : MA) : ME := fun ρ => (ma ρ).bind fun p => (frs p.1 p.2).bind fun q => (mf q.1).bind fun r => some (.fz r, q.2)
theorem callP_of {K : Kf} {n : Nat} {mf : List D → Option D} {ma : MA} {σ : L2.St} {H : Hp} {Q : VK} (w : tE K (mCall mf ma) σ H Q) (hn : ∀ ρ rs ρ', ma ρ = some (rs, ρ') → rs.length = n) : tCall (spP K n mf) [] E0 (tA K ma) σ H Q := by
  obtain ⟨G, F, ρ, I, r, ρ', e, k⟩ := w
  obtain ⟨⟨rs, ρ1⟩, e1, e⟩ := Option.bind_eq_some_iff.mp e
  obtain ⟨⟨ds, ρ2⟩, e2, e⟩ := Option.bind_eq_some_iff.mp e
  obtain ⟨d, e3, e⟩ := Option.bind_eq_some_iff.mp e
  cases e
  refine ⟨G, F, ρ, I, rs, ρ1, e1, fun F1 H1 vs l1 I1 k1 => ?_⟩
  obtain ⟨F2, l2, I2, r2⟩ := I1.frs k1 e2
  rw [List.append_nil]
  have hl : vs.length = n := by
    rw [← hn ρ rs ρ1 e1]; exact k1.length
  exact ⟨hl, F2, ds, I2.sub, r2, d, e3, fun F3 H3 v nw r3 => k F3 H3 v ((l1.trans l2).trans nw.le) (I2.nw nw) r3⟩
theorem mNil_len {ρ : En} {rs : List RV} {ρ' : En} (h : mNil ρ = some (rs, ρ')) : rs.length = 0 := by cases h; rfl
theorem mCons_len {m : ME} {ms : MA} {n : Nat} (hn : ∀ ρ rs ρ', ms ρ = some (rs, ρ') → rs.length = n) {ρ : En} {rs : List RV} {ρ' : En} (h : mCons m ms ρ = some (rs, ρ')) : rs.length = n + 1 := by
  obtain ⟨p, _, e⟩ := Option.bind_eq_some_iff.mp h
  obtain ⟨q, e2, e⟩ := Option.bind_eq_some_iff.mp e
  cases e
  rw [List.length_cons, hn _ _ _ e2]
/-- the arguments' list and its length -/
structure DAn (X : Cx) (es : List Expr) (n : Nat) (m : MA) : Prop where
  da : DA X es m
  ln : ∀ ρ rs ρ', m ρ = some (rs, ρ') → rs.length = n
section
variable {X : Cx}
theorem an_nil : DAn X [] 0 mNil := ⟨da_nil, fun _ _ _ => mNil_len⟩
theorem an_cons {e : Expr} {es : List Expr} {m : ME} {ms : MA} {n : Nat} (h : DE X e m) (hs : DAn X es n ms) (hst : starEach (e :: es) X.env = (false, eval e X.env) :: starEach es X.env := by rfl) : DAn X (e :: es) (n + 1) (mCons m ms) :=
  ⟨da_cons h hs.da hst, fun _ _ _ => mCons_len hs.ln⟩
variable {k n : Nat} {f : Addr} {fd : FuncData} {ps : List Str} {x : Str} {p pos : Pos} {e : Expr} {es : List Expr} {mf : List D → Option D} {ma : MA}
theorem de_call (F : FnOk X.prog X.w X.K X.mg X.base CX0 k f fd ps (spP X.K n mf)) (hr : Room k X.A) (hg : Gl X x) (hm : X.mg x = some (.ref f)) (hk : PySem.W.keepIn X.K (.ref f) = true) (hb : Binds X.K fd ps [])
    (ha : DAn X (e :: es) n ma) (hdb : (x == ("__debug__" : Str)) = false := by decide) (he : starEach (e :: es) X.env = (false, eval e X.env) :: starEach es X.env := by rfl) (hpl : (backTo pos (starEach es X.env)).any (·.1) = false := by rfl) :
    DE X (.Call (.Name x p) (e :: es) [] pos) (mCall mf ma) :=
  peImp (pe_call F hr hg hm hk hb .nil pass0 ha.da hdb he hpl) fun σ H Q w => callP_of w ha.ln
end
section
variable {X : Cx} {k n : Nat} {f : Addr} {fd : FuncData} {ps : List Str} {x : Str} {p pos : Pos} {e : Expr} {es : List Expr} {mf : List D → Option D} {ma : MA}
end
/-! ### defs that change one argument -/
/-- what is nested, lent: its inner things were there, or are new -/
def NstB (K : Kf) (H0 : Hp) (Bx : List Addr) (F H : Hp) (p : Addr) : D → Prop
  | .nst ds => ∃ vs, H p = some (.lst vs) ∧ OA K F H vs ds ∧ (inn vs ds).Nodup ∧ p ∉ inn vs ds ∧ ∀ q ∈ inn vs ds, H0 q = none ∨ q ∈ Bx
  | _ => True
theorem NstB.plain {K : Kf} {H0 F H : Hp} {Bx : List Addr} {p : Addr} {d : D} (h : isN d = false) : NstB K H0 Bx F H p d := by
  cases d <;> first | trivial | cases h
theorem fpI_plain {H : Hp} {p : Addr} {d : D} (h : isN d = false) : fpI H p d = [] := by
  cases d <;> first | rfl | cases h
/-- what a slot has nested -/
theorem Rel.nstB {K : Kf} {G : Gh} {F H : Hp} {σ : L2.St} {ρ : En} (I : Rel K G F H σ ρ) {i : Nat} {b : Bool} {d : D} {p : Addr} (hi : ρ[i]? = some (some (.ow b d))) (hs : σ[i]? = some (some (.ref p))) : NstB K H (fpI H p d) F H p d := by
  cases d
  case nst ds =>
    obtain ⟨vs, h1, h2, h3, h4⟩ := I.nn i b ds p hi hs
    refine ⟨vs, h1, h2, h3, fun hp => ((h4 p hp).2.2 i b _ p hi hs).1 rfl, fun q hq => .inr ?_⟩
    unfold fpI
    rw [h1]
    exact hq
  all_goals trivial
theorem fpI_in {H : Hp} {σ : L2.St} {ρ : En} {i : Nat} {b : Bool} {d : D} {p q : Addr} (hi : ρ[i]? = some (some (.ow b d))) (hs : σ[i]? = some (some (.ref p))) (hq : q ∈ fpI H p d) : NinI H σ ρ q := by
  cases d
  case nst ds =>
    unfold fpI at hq
    dsimp only at hq
    cases hh : H p with
    | none => rw [hh] at hq; cases hq
    | some o =>
      rw [hh] at hq
      cases o
      case lst vs => exact ⟨i, b, ds, p, vs, hi, hs, hh, hq⟩
      all_goals cases hq
  all_goals cases hq
theorem Inn.at_ {K : Kf} {G : Gh} {F H : Hp} {σ : L2.St} {ρ : En} (I : Inn K G F H σ ρ) {i : Nat} {b : Bool} {d : D} {p q : Addr} (hi : ρ[i]? = some (some (.ow b d))) (hs : σ[i]? = some (some (.ref p))) (hq : q ∈ fpI H p d) :
    (G.H0 q = none ∨ (b = true ∧ q ∈ G.Bx)) ∧ (∀ r ∈ G.Pn, r.1 ≠ q) ∧ ∀ (j : Nat) (c : Bool) (e : D) (p' : Addr), ρ[j]? = some (some (.ow c e)) → σ[j]? = some (some (.ref p')) → q ≠ p' ∧ (j ≠ i → q ∉ fpI H p' e) := by
  cases d
  case nst ds =>
    obtain ⟨vs, h1, _, _, h4⟩ := I i b ds p hi hs
    unfold fpI at hq
    rw [h1] at hq
    exact h4 q hq
  all_goals cases hq
theorem NstB.inn {K : Kf} {H0 F H : Hp} {Bx : List Addr} {p q : Addr} {d : D} (h : NstB K H0 Bx F H p d) (hq : q ∈ fpI H p d) : H0 q = none ∨ q ∈ Bx := by
  cases d
  case nst ds =>
    obtain ⟨vs, h1, _, _, _, h5⟩ := h
    unfold fpI at hq
    rw [h1] at hq
    exact h5 q hq
  all_goals cases hq
theorem fpI_same {H H' : Hp} {p : Addr} {d : D} (e : H' p = H p) : fpI H' p d = fpI H p d := by
  cases d <;> first | rfl | (unfold fpI; rw [e])
/-- what a slot holds is other, inside too -/
theorem Rel.mutN {K : Kf} {G : Gh} {F H H' H0n : Hp} {σ : L2.St} {ρ : En} {i : Nat} {b : Bool} {d d' : D} {p : Addr} (I : Rel K G F H σ ρ) (hi : ρ[i]? = some (some (.ow b d))) (hs : σ[i]? = some (some (.ref p)))
    (hH : ∀ a, a ≠ p → a ∉ fpI H p d → H' a = H a) (ob : Ob K F H' p d') (nb : NstB K H0n (fpI H p d) F H' p d')
    (hnew : ∀ q, H0n q = none → G.H0 q = none ∧ ¬ NinI H σ ρ q ∧ (∀ r ∈ G.Pn, r.1 ≠ q) ∧ ∀ (j : Nat) (c : Bool) (e : D), ρ[j]? = some (some (.ow c e)) → σ[j]? ≠ some (some (.ref q)))
    (hbx : ∀ q ∈ fpI H p d, ∃ o, H' q = some o ∧ Mut (some o)) : Rel K G F H' σ (ρ.set i (some (.ow b d'))) := by
  obtain ⟨v, h1, p', e1, f0, ob0, w1, w2⟩ := I.slot i _ hi
  rw [hs] at h1; cases h1; cases e1
  have hl : i < ρ.length := (List.getElem?_eq_some_iff.mp hi).1
  have nI : ∀ q ∈ fpI H p d, F q = none ∧ (∃ o, H q = some o ∧ Mut (some o)) ∧ (∀ r ∈ G.Pn, r.1 ≠ q) ∧ ∀ (j : Nat) (c : Bool) (e : D), ρ[j]? = some (some (.ow c e)) → σ[j]? ≠ some (some (.ref q)) := fun q hq => I.nn.ni (fpI_in hi hs hq)
  have slotH : ∀ (j : Nat) (c : Bool) (e : D) (a : Addr), j ≠ i → ρ[j]? = some (some (.ow c e)) → σ[j]? = some (some (.ref a)) → H' a = H a := fun j c e a ji z1 z2 =>
    hH a (fun z => by subst z; exact I.dis j i _ _ _ _ _ ji z1 hi z2 hs) fun hq => (nI a hq).2.2.2 j c e z1 z2
  have old : ∀ {j : Nat} {c : Bool} {e : D}, (ρ.set i (some (.ow b d')))[j]? = some (some (.ow c e)) → (j = i ∧ c = b ∧ e = d') ∨ (j ≠ i ∧ ρ[j]? = some (some (.ow c e))) := fun {j c e} z => by
    rcases get_set z with ⟨z0, z, _⟩ | ⟨n1, z1⟩
    · cases z; exact .inl ⟨z0, rfl, rfl⟩
    · exact .inr ⟨n1, z1⟩
  refine ⟨fun a x e => ?_, by simp [I.len], fun j dv e => ?_, fun j k b1 c d1 d2 q jk e1 e2 e3 e4 => ?_, fun a x e hb => ?_, I.grow, I.low, fun q hq => ?_, fun q hq => ?_, fun q hq => ?_, fun q hq => ?_, fun k c ds a e1 e2 => ?_⟩
  · rw [hH a (fun z => by subst z; rw [f0] at e; cases e) fun hq => by rw [(nI a hq).1] at e; cases e]
    exact I.sub a x e
  · rcases get_set e with ⟨rfl, z, _⟩ | ⟨hne, z⟩
    · cases z
      exact ⟨.ref p, hs, p, rfl, f0, ob, w1, w2⟩
    · obtain ⟨w, h1, h2⟩ := I.slot j dv z
      refine ⟨w, h1, ?_⟩
      cases dv with
      | fz d => exact h2
      | ow b2 d2 =>
        obtain ⟨p2, e2, f2, ob2, w3, w4⟩ := h2
        subst e2
        exact ⟨p2, rfl, f2, ob2.mono (Same.refl _) (slotH j b2 d2 p2 hne z h1), w3, w4⟩
  · rcases get_set e1 with ⟨z0, z, _⟩ | ⟨n1, z1⟩
    · rcases get_set e2 with ⟨z3, _, _⟩ | ⟨n2, z2⟩
      · exact jk (z0.trans z3.symm)
      · subst z0; exact I.dis j k _ c _ _ q jk hi z2 e3 e4
    · rcases get_set e2 with ⟨z3, _, _⟩ | ⟨n2, z2⟩
      · subst z3; exact I.dis j k b1 _ _ _ q jk z1 hi e3 e4
      · exact I.dis j k b1 c _ _ q jk z1 z2 e3 e4
  · have ne : a ≠ p := fun z => by
      subst z
      cases b with
      | false => rw [w1 rfl] at e; cases e
      | true => exact hb (List.mem_append_left _ (List.mem_map.mpr ⟨_, w2 rfl, rfl⟩))
    have ni : a ∉ fpI H p d := fun hq => by
      rcases (I.nn.at_ hi hs hq).1 with z | ⟨_, z⟩
      · rw [z] at e; cases e
      · exact hb (List.mem_append_right _ z)
    rw [hH a ne ni]; exact I.keep a x e hb
  · obtain ⟨d2, h1, h2⟩ := I.bor q hq
    by_cases ne : q.1 = i
    · rw [ne, hi] at h1
      cases h1
      exact ⟨d', by rw [ne, List.getElem?_set_self hl], h2⟩
    · exact ⟨d2, by rw [List.getElem?_set_ne (Ne.symm ne)]; exact h1, h2⟩
  · obtain ⟨h1, h2⟩ := I.lk q hq
    rw [hH q.1 (fun z => h2 (by rw [z]; exact f0)) fun hq2 => h2 (nI _ hq2).1]
    exact ⟨h1, h2⟩
  · obtain ⟨h1, h2, h3⟩ := I.pn q hq
    rw [hH q.1 (fun z => h3 i b d hi (by rw [z]; exact hs)) fun hq2 => (nI _ hq2).2.2.1 q hq rfl]
    refine ⟨h1, h2, fun j b2 d2 e => ?_⟩
    rcases old e with ⟨rfl, _, _⟩ | ⟨_, z⟩
    · exact h3 j b d hi
    · exact h3 j b2 d2 z
  · obtain ⟨h1, h2, h3⟩ := I.bx q hq
    refine ⟨h1, h2, ?_⟩
    by_cases z : q = p
    · subst z; exact ob.has
    · by_cases z2 : q ∈ fpI H p d
      · exact hbx q z2
      · rw [hH q z z2]; exact h3
  · rcases old e1 with ⟨rfl, rfl, z⟩ | ⟨ki, z1⟩
    · subst z
      rw [hs] at e2
      cases e2
      have nb' := nb
      obtain ⟨vs, h1, h2, h3, h4, h5⟩ := nb
      refine ⟨vs, h1, h2, h3, fun q hq => ?_⟩
      have src := h5 q hq
      refine ⟨?_, ?_, fun j c2 e p' z1 z2 => ?_⟩
      · rcases src with n | o
        · exact .inl (hnew q n).1
        · exact (I.nn.at_ hi hs o).1
      · rcases src with n | o
        · exact (hnew q n).2.2.1
        · exact (nI q o).2.2.1
      · rcases old z1 with ⟨rfl, rfl, rfl⟩ | ⟨ji, y1⟩
        · rw [hs] at z2
          cases z2
          exact ⟨fun z => h4 (z ▸ hq), fun z => absurd rfl z⟩
        · constructor
          · rcases src with n | o
            · exact fun z => (hnew q n).2.2.2 j c2 e y1 (by rw [z]; exact z2)
            · exact fun z => (nI q o).2.2.2 j c2 e y1 (by rw [z]; exact z2)
          · intro _ hq2
            rw [fpI_same (slotH j c2 e p' ji y1 z2)] at hq2
            rcases src with n | o
            · exact (hnew q n).2.1 (fpI_in y1 z2 hq2)
            · exact ((I.nn.at_ hi hs o).2.2 j c2 e p' y1 z2).2 ji hq2
    · obtain ⟨vs, h1, h2, h3, h4⟩ := I.nn k c ds a z1 e2
      have inA : ∀ q ∈ inn vs ds, NinI H σ ρ q := fun q hq => ⟨k, c, ds, a, vs, z1, e2, h1, hq⟩
      have nofp : ∀ q ∈ inn vs ds, q ≠ p ∧ q ∉ fpI H p d := fun q hq => by
        have := (h4 q hq).2.2 i b d p hi hs
        exact ⟨this.1, this.2 (Ne.symm ki)⟩
      refine ⟨vs, by rw [slotH k c _ a ki z1 e2]; exact h1, h2.mono (Same.refl _) fun q hq => ⟨hH q (nofp q hq).1 (nofp q hq).2, (I.nn.ni (inA q hq)).1⟩, h3, fun q hq => ⟨(h4 q hq).1, (h4 q hq).2.1, fun j c2 e p' y1 y2 => ?_⟩⟩
      rcases old y1 with ⟨rfl, rfl, rfl⟩ | ⟨ji, x1⟩
      · rw [hs] at y2
        cases y2
        refine ⟨(nofp q hq).1, fun _ hq2 => ?_⟩
        rcases nb.inn hq2 with n | o
        · exact (hnew q n).2.1 (inA q hq)
        · exact (nofp q hq).2 o
      · have := (h4 q hq).2.2 j c2 e p' x1 y2
        refine ⟨this.1, fun jk => ?_⟩
        rw [fpI_same (slotH j c2 e p' ji x1 y2)]
        exact this.2 jk
def ArgB (K : Kf) (F H : Hp) (j : Nat) (p : Addr) (vs : List V) (ds : List D) : Prop := vs.length = ds.length ∧ ∀ (i : Nat) (v : V) (d : D), vs[i]? = some v → ds[i]? = some d → if i = j then v = .ref p ∧ Ob K F H p d ∧ NstB K H (fpI H p d) F H p d else R K F v d
def spB (K : Kf) (n j : Nat) (mf : List D → Option (D × D)) : Sp := fun vs H Q _ => vs.length = n ∧ j < n ∧ ∃ F ds p, Sub F H ∧ F p = none ∧ ArgB K F H j p vs ds ∧ ∃ r d', mf ds = some (r, d') ∧
  ∀ F' H' v, Sub F' H' → Le F F' → (∀ a o, F' a = some o → Gw F H a o) → (∀ a o, H a = some o → a ≠ p → a ∉ fpI H p ((ds[j]?).getD .non) → H' a = some o) → F' p = none → Ob K F' H' p d' → NstB K H (fpI H p ((ds[j]?).getD .non)) F' H' p d' → (∀ q ∈ fpI H p ((ds[j]?).getD .non), ∃ o, H' q = some o ∧ Mut (some o)) → R K F' v r → Q v H'
def en1 (N j : Nat) (ds : List D) : En := match ds[j]? with
  | some d => (en0 N ds).set j (some (.ow true d))
  | none => en0 N ds
def owAt (ρ : En) (j : Nat) : Option D := match ρ[j]? with
  | some (some (.ow _ d)) => some d
  | _ => none
def fnB (N j : Nat) (m : MS) : List D → Option (D × D) := fun ds => (m (en1 N j ds)).bind fun o => match o with
  | .rt d ρ => (owAt ρ j).bind fun d' => some (d, d')
  | .nx ρ => (owAt ρ j).bind fun d' => some (.non, d')
  | _ => none
theorem start_relB {K : Kf} {N : List Str} {H F : Hp} {vs : List V} {ds : List D} {j : Nat} {p : Addr} (s : Sub F H) (fp : F p = none) (r : ArgB K F H j p vs ds) (hj : j < vs.length) : Rel K (gh0 H F [(j, p)] (fpI H p ((ds[j]?).getD .non))) F H (L2.start N vs) (en1 N.length j ds) := by
  obtain ⟨hl, hr⟩ := r
  have hjd : j < ds.length := by omega
  have ej : ds[j]? = some ds[j] := by simp [hjd]
  have evj : vs[j]? = some vs[j] := by simp [hj]
  have e1 : en1 N.length j ds = (en0 N.length ds).set j (some (.ow true ds[j])) := by unfold en1; rw [ej]
  have aj := hr j _ _ evj ej
  rw [if_pos rfl] at aj
  have g : ∀ {i : Nat} {dv : DV}, (en1 N.length j ds)[i]? = some (some dv) → (i = j ∧ dv = .ow true ds[j]) ∨ (i ≠ j ∧ ∃ d, ds[i]? = some d ∧ dv = .fz d) := fun {i dv} e => by
    rw [e1] at e
    rcases get_set e with ⟨rfl, z, _⟩ | ⟨n, z⟩
    · cases z; exact .inl ⟨rfl, rfl⟩
    · exact .inr ⟨n, en0_get z⟩
  have hle : j < (en0 N.length ds).length := by
    unfold en0; rw [List.length_append, List.length_map]; omega
  refine ⟨s, ?_, fun i dv e => ?_, fun i k b c d e q ij e1 e2 => ?_, fun a o e _ => .inl e, fun a o e => .inl e, Same.refl _, fun q hq => ?_, fun q hq => (nomatch hq), fun q hq => (nomatch hq), fun q hq => ?_, fun i b dn a e3 e4 => ?_⟩
  · rw [e1]; unfold L2.start en0
    simp [hl]
  · rcases g e with ⟨rfl, rfl⟩ | ⟨ne, d, ed, rfl⟩
    · exact ⟨.ref p, by rw [← aj.1]; exact start_get evj, p, rfl, fp, aj.2.1, (fun z => nomatch z), fun _ => List.mem_cons_self⟩
    · have hiv : i < vs.length := by rw [hl]; exact (List.getElem?_eq_some_iff.mp ed).1
      have := hr i vs[i] d (by simp [hiv]) ed
      rw [if_neg ne] at this
      exact ⟨vs[i], start_get (by simp [hiv]), this⟩
  · rcases g e1 with ⟨rfl, _⟩ | ⟨_, _, _, z⟩
    · rcases g e2 with ⟨rfl, _⟩ | ⟨_, _, _, z⟩
      · exact absurd rfl ij
      · cases z
    · cases z
  · have hq' : q = (j, p) := by simpa [gh0] using hq
    subst hq'
    exact ⟨ds[j], by rw [e1, List.getElem?_set_self hle], by rw [← aj.1]; exact start_get evj⟩
  · have hq : q ∈ fpI H p ((ds[j]?).getD .non) := hq
    rw [ej] at hq
    have hq : q ∈ fpI H p ds[j] := hq
    have nb := aj.2.2
    generalize ds[j] = dj at hq nb
    cases dj
    case nst es =>
      obtain ⟨vs', h1, h2, _⟩ := nb
      unfold fpI at hq
      rw [h1] at hq
      obtain ⟨f, o, h3, m⟩ := h2.inner q hq
      exact ⟨by show H q ≠ none; rw [h3]; simp, f, o, h3, m⟩
    all_goals cases hq
  · have only : ∀ {k : Nat} {c : Bool} {e : D} {a' : Addr}, (en1 N.length j ds)[k]? = some (some (.ow c e)) → (L2.start N vs)[k]? = some (some (.ref a')) → k = j ∧ c = true ∧ e = ds[j] ∧ a' = p := fun {k c e a'} z1 z2 => by
      rcases g z1 with ⟨rfl, w⟩ | ⟨_, _, _, w⟩
      · cases w
        rw [start_get evj, aj.1] at z2
        cases z2
        exact ⟨rfl, rfl, rfl, rfl⟩
      · cases w
    obtain ⟨rfl, rfl, hd, rfl⟩ := only e3 e4
    have nb := aj.2.2
    rw [← hd] at nb
    obtain ⟨vs', h1, h2, h3, h4, h5⟩ := nb
    refine ⟨vs', h1, h2, h3, fun q hq => ⟨.inr ⟨rfl, ?_⟩, (fun r hr => by cases hr), fun k c e p' z1 z2 => ?_⟩⟩
    · show q ∈ fpI H a ((ds[i]?).getD .non)
      rw [ej]
      show q ∈ fpI H a ds[i]
      rw [← hd]
      unfold fpI
      rw [h1]
      exact hq
    · obtain ⟨rfl, _, _, rfl⟩ := only z1 z2
      exact ⟨fun z => h4 (z ▸ hq), fun z => absurd rfl z⟩
section
variable {P : Program} {w : World} {K : Kf} {mg : Str → Option Value} {base : Heap}
theorem fn_okB0 {x qual : Str} {st : Stmt} {f : Addr} {fd : FuncData} {N ps : List Str} {k : Nat} {m : MS} (j : Nat) (F : Fun K x qual st f fd) (S : FnScope N ps (defScope st))
    (hb : ∀ (cdv : Value) (A : Around) (outer : List PySem.Env) (s : Shared) (H : Hp) (E : XK), Room k (A.deeper (envOfC qual (defScope st) s.heap.objs.size f cdv)) →
      DSs (cxOf CX0 P w K mg base N qual (defScope st) f cdv A outer s H E).nox (defBody st) m) : FnOk P w K mg base CX0 (k + 1) f fd ps (spB K ps.length j (fnB N.length j m)) := by
  refine F.ok S (fun vs H Q E h => h.1) (fun cdv A outer s H vs Q E hr h => ⟨_, hb cdv A outer s H E hr, ?_⟩)
  obtain ⟨hl, hj, Fz, ds, p, sub, fp, r, d, d', e, k⟩ := h
  obtain ⟨o, e1, e2⟩ := Option.bind_eq_some_iff.mp e
  obtain ⟨Bx, hBx⟩ : ∃ Bx, Bx = fpI H p ((ds[j]?).getD .non) := ⟨_, rfl⟩
  have st := start_relB (N := N) sub fp r (by omega)
  rw [← hBx] at st k
  refine ⟨gh0 H Fz [(j, p)] Bx, Fz, en1 N.length j ds, st, o, e1, ?_⟩
  have fin : ∀ F' H' σ' ρ' d', Le Fz F' → Rel K (gh0 H Fz [(j, p)] Bx) F' H' σ' ρ' → owAt ρ' j = some d' → Sub F' H' ∧ (∀ a o, F' a = some o → Gw Fz H a o) ∧ (∀ a o, H a = some o → a ≠ p → a ∉ Bx → H' a = some o) ∧ F' p = none ∧ Ob K F' H' p d' ∧ NstB K H Bx F' H' p d' ∧ ∀ q ∈ Bx, ∃ o, H' q = some o ∧ Mut (some o) := fun F' H' σ' ρ' d' l I eo => by
    refine ⟨I.sub, I.grow, fun a o h hne hnb => ?_, ?_⟩
    · rcases I.keep a o h (by simp [gh0, Gh.X, hne, hnb]) with z | ⟨ob, _, z⟩
      · exact z
      · exact nomatch z
    · obtain ⟨d2, h1, h2⟩ := I.bor (j, p) List.mem_cons_self
      obtain ⟨v, h3, p2, e3, f3, ob, _⟩ := I.slot _ _ h1
      rw [h2] at h3; cases h3; cases e3
      unfold owAt at eo
      rw [h1] at eo
      cases eo
      refine ⟨f3, ob, ?_, fun q hq => (I.bx q hq).2.2⟩
      cases d'
      case nst es =>
        obtain ⟨vs, g1, g2, g3, g4⟩ := I.nn j _ es p h1 h2
        refine ⟨vs, g1, g2, g3, fun hp => ((g4 p hp).2.2 j _ _ p h1 h2).1 rfl, fun q hq => ?_⟩
        rcases (g4 q hq).1 with z | ⟨_, z⟩
        · exact .inl z
        · exact .inr z
      all_goals trivial
  cases o with
  | nx ρ' =>
    obtain ⟨d2, e3, e2⟩ := Option.bind_eq_some_iff.mp e2
    cases e2
    refine fun F' H' σ' l I => ?_
    obtain ⟨a1, a2, a3, a4, a5, a6, a7⟩ := fin _ _ _ _ _ l I e3
    exact k F' H' .non a1 l a2 a3 a4 a5 a6 a7 .non
  | rt d' ρ' =>
    obtain ⟨d2, e3, e2⟩ := Option.bind_eq_some_iff.mp e2
    cases e2
    refine fun F' H' σ' v l I r => ?_
    obtain ⟨a1, a2, a3, a4, a5, a6, a7⟩ := fin _ _ _ _ _ l I e3
    exact k F' H' v a1 l a2 a3 a4 a5 a6 a7 r
  | rn d' ρ' => cases e2
  | bk ρ' => cases e2
  | ct ρ' => cases e2
  | xx x ρ' => cases e2
end
/-- all but the j-th frozen; the j-th is an own slot -/
def frB (j : Nat) (rs : List RV) (ρ : En) : Option (List D × Nat × En) := match rs[j]? with
  | some (.sl i) => (frs (rs.set j (.fz .non)) ρ).bind fun p => match p.2[i]? with
    | some (some (.ow _ d)) => some (p.1.set j d, i, p.2)
    | _ => none
  | _ => none
def putO (i : Nat) (d : D) (ρ : En) : En := match ρ[i]? with
  | some (some (.ow b _)) => ρ.set i (some (.ow b d))
  | _ => ρ
def mCallB (j : Nat) (mf : List D → Option (D × D)) (ma : MA) : ME := fun ρ => (ma ρ).bind fun p => (frB j p.1 p.2).bind fun q => (mf q.1).bind fun r => some (.fz r.1, putO q.2.1 r.2 q.2.2)
theorem RVs.get {K : Kf} {F : Hp} {σ : L2.St} : ∀ {vs : List V} {rs : List RV} {i : Nat} {r : RV}, RVs K F σ vs rs → rs[i]? = some r → ∃ v, vs[i]? = some v ∧ RVk K F σ v r
  | _, _, _, _, .nil, h => by simp at h
  | _, _, 0, _, .cons r t, h => by simp at h; subst h; exact ⟨_, rfl, r⟩
  | _, _, i + 1, d, .cons r t, h => by
    obtain ⟨v, h1, h2⟩ := RVs.get (i := i) (r := d) t (by simpa using h)
    exact ⟨v, by simpa using h1, h2⟩
theorem RVs.set {K : Kf} {F : Hp} {σ : L2.St} {v : V} {r : RV} (k : RVk K F σ v r) : ∀ {vs : List V} {rs : List RV} (i : Nat), RVs K F σ vs rs → RVs K F σ (vs.set i v) (rs.set i r)
  | _, _, _, .nil => .nil
  | _, _, 0, .cons _ t => .cons k t
  | _, _, i + 1, .cons q t => .cons q (RVs.set k i t)
/-- behind a call that changed what stands at p -/
theorem Rel.after {K : Kf} {G : Gh} {F H F' H' : Hp} {σ : L2.St} {ρ : En} {i : Nat} {b : Bool} {d d' : D} {p : Addr} (I : Rel K G F H σ ρ) (hi : ρ[i]? = some (some (.ow b d))) (hs : σ[i]? = some (some (.ref p)))
    (sub : Sub F' H') (le : Le F F') (new : ∀ a o, F' a = some o → Gw F H a o) (same : ∀ a o, H a = some o → a ≠ p → a ∉ fpI H p d → H' a = some o) (fp : F' p = none) (ob : Ob K F' H' p d') (nb : NstB K H (fpI H p d) F' H' p d') (hbx : ∀ q ∈ fpI H p d, ∃ o, H' q = some o ∧ Mut (some o)) : Rel K G F' H' σ (ρ.set i (some (.ow b d'))) := by
  obtain ⟨v, h1, p', e1, f0, ob0, _⟩ := I.slot i _ hi
  rw [hs] at h1; cases h1; cases e1
  have nI := fun q (hq : q ∈ fpI H p d) => I.nn.ni (fpI_in hi hs hq)
  have noF : ∀ q ∈ fpI H p d, F' q = none := fun q hq => by
    obtain ⟨f, ⟨o, ho, hm⟩, _⟩ := nI q hq
    cases z : F' q with
    | none => rfl
    | some x =>
      rcases new q x z with y | y | ⟨⟨vs, hv⟩, y⟩
      · rw [f] at y; cases y
      · rw [ho] at y; cases y
      · rw [ho, hv] at y; cases y; exact hm.elim
  classical
  obtain ⟨H2, hH2⟩ : ∃ H2 : Hp, H2 = fun a => if a = p ∨ a ∈ fpI H p d then H a else H' a := ⟨_, rfl⟩
  have in2 : ∀ a, a = p ∨ a ∈ fpI H p d → H2 a = H a := fun a h => by rw [hH2]; show (if _ then _ else _) = _; rw [if_pos h]
  have out2 : ∀ a, ¬ (a = p ∨ a ∈ fpI H p d) → H2 a = H' a := fun a h => by rw [hH2]; show (if _ then _ else _) = _; rw [if_neg h]
  have nw : Nw F H F' H2 := by
    refine ⟨fun a x e => ?_, le, new, fun a x e => ?_⟩
    · rw [out2 a fun z => by
        rcases z with z | z
        · rw [z, fp] at e; cases e
        · rw [noF a z] at e; cases e]
      exact sub a x e
    · by_cases z : a = p ∨ a ∈ fpI H p d
      · rw [in2 a z]; exact e
      · rw [out2 a z]; exact same a x e (fun y => z (.inl y)) fun y => z (.inr y)
  have I2 := I.nw nw
  have ef : fpI H2 p d = fpI H p d := fpI_same (in2 p (.inl rfl))
  refine I2.mutN (H0n := H) hi hs (fun a h1 h2 => (out2 a fun z => z.elim h1 fun y => h2 (by rw [ef]; exact y)).symm) ob (by rw [ef]; exact nb) (fun q hq => ⟨I.fresh hq, fun ⟨i1, b1, ds, p1, vs, y1, y2, y3, y4⟩ => ?_, fun r hr z => ?_, fun j c e y1 y2 => ?_⟩) (by rw [ef]; exact hbx)
  · obtain ⟨vs', h5, _⟩ := I.nn i1 b1 ds p1 y1 y2
    rw [nw.same _ _ h5] at y3
    cases y3
    exact I.nin hq ⟨_, _, _, _, _, y1, y2, h5, y4⟩
  · have := (I.pn r hr).1
    rw [z, hq] at this
    cases this
  · obtain ⟨v, h1, p', e1, _, ob', _⟩ := I.slot j _ y1
    rw [y2] at h1; cases h1; cases e1
    obtain ⟨o', e2, _⟩ := ob'.has
    rw [hq] at e2; cases e2
section
variable {X : Cx} {k n : Nat} {f : Addr} {fd : FuncData} {ps : List Str} {x : Str} {p pos : Pos} {e : Expr} {es : List Expr} {mf : List D → Option (D × D)} {ma : MA}
end
section
variable {P : Program} {w : World} {K : Kf} {mg : Str → Option Value} {base : Heap}
theorem fn_ok {x qual : Str} {st : Stmt} {f : Addr} {fd : FuncData} {k : Nat} (N ps : List Str) (n np : Nat) (m : MS) {g : List D → Option D} (F : Fun K x qual st f fd) (S : FnScope N ps (defScope st)) (hn : N.length = n) (hp : ps.length = np) (hg : g = fnP n m)
    (hb : ∀ (cdv : Value) (A : Around) (outer : List PySem.Env) (s : Shared) (H : Hp) (E : XK), Room k (A.deeper (envOfC qual (defScope st) s.heap.objs.size f cdv)) →
      DSs (cxOf CX0 P w K mg base N qual (defScope st) f cdv A outer s H E).nox (defBody st) m) : FnOk P w K mg base CX0 (k + 1) f fd ps (spP K np g) := by
  subst hn hp hg; exact fn_ok0 F S hb
theorem fn_okB {x qual : Str} {st : Stmt} {f : Addr} {fd : FuncData} {k : Nat} (N ps : List Str) (n np j : Nat) (m : MS) {g : List D → Option (D × D)} (F : Fun K x qual st f fd) (S : FnScope N ps (defScope st)) (hn : N.length = n) (hp : ps.length = np) (hg : g = fnB n j m)
    (hb : ∀ (cdv : Value) (A : Around) (outer : List PySem.Env) (s : Shared) (H : Hp) (E : XK), Room k (A.deeper (envOfC qual (defScope st) s.heap.objs.size f cdv)) →
      DSs (cxOf CX0 P w K mg base N qual (defScope st) f cdv A outer s H E).nox (defBody st) m) : FnOk P w K mg base CX0 (k + 1) f fd ps (spB K np j g) := by
  subst hn hp hg; exact fn_okB0 j F S hb
end
/-- the law's own start: the script -/
theorem law_start {K : Kf} {H : Hp} {a : Addr} {ns : List Int} {mf : List D → Option D} (ho : Only H) (hS : SqL K H a (ns.map V.int)) (hf : mf [.scr ns] = some (.bl true)) : spP K 1 mf [.ref a] H (fun v _ => v = .bl true) fun _ _ _ => False := by
  refine ⟨rfl, fun b => if b = a then H a else none, [.scr ns], fun b o e => ?_, .cons (.scr ?_) .nil, .bl true, hf, fun F' H' v nw r => by cases r; rfl⟩
  · dsimp only at e
    split at e
    · rename_i z; subst z; exact .inl e
    · cases e
  · rcases hS with (h | ⟨o, h⟩) | h
    · exact .inl (.inl (by show (if a = a then H a else none) = _; rw [if_pos rfl]; exact h))
    · exact .inl (.inr ⟨o, by show (if a = a then H a else none) = _; rw [if_pos rfl]; exact h⟩)
    · exact .inr h
end DL

set_option Elab.async false
set_option linter.all false
set_option maxRecDepth 100000
set_option maxHeartbeats 4000000
namespace DL
open PySem PySem.Spec PyProof.Rows L2

/-! ### whole numbers -/
def f2I (C : Int → Int → Bool) (g : Int → Int → D) : D → D → Option O1
  | .int i, .int j => if C i j = true then some (.val (g i j)) else none
  | _, _ => none
def f2I0 (g : Int → Int → D) : D → D → Option O1
  | .int i, .int j => some (.val (g i j))
  | _, _ => none
theorem opd_I {K : Kf} {C : Int → Int → Prop} {Cb : Int → Int → Bool} {gv : Int → Int → V} {gd : Int → Int → D} (hC : ∀ i j, Cb i j = true → C i j) (hg : ∀ F i j, R K F (gv i j) (gd i j)) : OpD K (rI C gv) (f2I Cb gd) := fun F H x y d e o Q s a b eo k => by
  cases d with
  | int i =>
    cases e with
    | int j =>
      unfold f2I at eo
      dsimp only at eo
      split at eo
      · rename_i hc
        cases eo
        exact ⟨i, j, a, b, hC i j hc, k _ (hg F i j)⟩
      · cases eo
    | _ => cases eo
  | _ => cases eo
theorem opd_I0 {K : Kf} {gv : Int → Int → V} {gd : Int → Int → D} (hg : ∀ F i j, R K F (gv i j) (gd i j)) : OpD K (rI0 gv) (f2I0 gd) := fun F H x y d e o Q s a b eo k => by
  cases d with
  | int i =>
    cases e with
    | int j => cases eo; exact ⟨i, j, a, b, k _ (hg F i j)⟩
    | _ => cases eo
  | _ => cases eo
section
variable {K : Kf}
/-! ### + -/
def dAdd : D → D → Option O1
  | .int i, .int j => some (.val (.int (i + j)))
  | .str x, .str y => if x.length + y.length ≤ cap then some (.val (.str (x ++ y))) else none
  | .lst x, .lst y => if x.length + y.length ≤ cap then some (.newL (x ++ y)) else none
  | .tup x, .tup y => if x.length + y.length ≤ cap then some (if x.isEmpty then .val (.tup y) else if y.isEmpty then .val (.tup x) else .newT (x ++ y)) else none
  | _, _ => none
def rAddAll (K : Kf) : R2 := fun x y H Q => rI0 (fun i j => .int (i + j)) x y H Q ∨ ((∃ i j, x = .str i ∧ y = .str j ∧ i.length + j.length ≤ sizeLine ∧ Q (.str (i ++ j)) H) ∨ (rCat x y H Q ∨ rCatA K x y H Q))
theorem op_addAll {X : Cx} : OpR X (binaryOp .Add) (rAddAll X.K) := op_add.or (op_add_str.or (op_cat.or op_catA))
theorem opd_add : OpD K (rAddAll K) dAdd := fun F H x y d e o Q s a b eo k => by
  cases d with
  | int i =>
    cases e with
    | int j => cases eo; exact .inl ⟨i, j, a, b, k _ (.int _)⟩
    | _ => cases eo
  | str i =>
    cases e with
    | str j =>
      unfold dAdd at eo
      dsimp only at eo
      split at eo
      · rename_i hc; cases eo; exact .inr (.inl ⟨i, j, a, b, cap_le hc, k _ (.str _)⟩)
      · cases eo
    | _ => cases eo
  | lst i =>
    cases e with
    | lst j =>
      unfold dAdd at eo
      dsimp only at eo
      split at eo
      · rename_i hc
        cases eo
        obtain ⟨l, vs, rfl, h1, r1⟩ := a
        obtain ⟨b, ws, rfl, h2, r2⟩ := b
        exact .inr (.inr (.inl ⟨l, b, vs, ws, rfl, rfl, h1, h2, by rw [r1.length, r2.length]; exact cap_le hc, fun p hp => k p _ hp (r1.append r2)⟩))
      · cases eo
    | _ => cases eo
  | tup i =>
    cases e with
    | tup j =>
      unfold dAdd at eo
      dsimp only at eo
      split at eo
      · rename_i hc
        have eo := Option.some.inj eo
        obtain ⟨l, vs, rfl, h1, r1, f1⟩ := a
        obtain ⟨b, ws, rfl, h2, r2, f2⟩ := b
        have l1 := r1.length
        have l2 := r2.length
        refine .inr (.inr (.inr ⟨l, b, vs, ws, rfl, rfl, .of h1, .of h2, by rw [l1, l2]; exact cap_le hc, fun z => ?_, fun z z2 => ?_, fun z z2 p hp => ?_⟩))
        · subst z
          have : i = [] := by simpa using l1.symm
          subst this
          have eo : O1.val (D.tup j) = o := eo
          subst eo
          exact k _ (.tup f2 r2)
        · have n1 : i.isEmpty = false := by cases i with | nil => simp at l1; exact absurd l1 z | cons _ _ => rfl
          subst z2
          have : j = [] := by simpa using l2.symm
          subst this
          rw [n1, if_neg (by decide)] at eo
          have eo : O1.val (D.tup i) = o := eo
          subst eo
          exact k _ (.tup f1 r1)
        · have n1 : i.isEmpty = false := by cases i with | nil => simp at l1; exact absurd l1 z | cons _ _ => rfl
          have n2 : j.isEmpty = false := by cases j with | nil => simp at l2; exact absurd l2 z2 | cons _ _ => rfl
          rw [n1, if_neg (by decide), n2, if_neg (by decide)] at eo
          subst eo
          exact k p _ hp (r1.append r2)
      · cases eo
    | _ => cases eo
  | _ => cases eo
/-! ### * -/
def mulOk (i j : Int) : Bool := decide (i.natAbs.log2 + j.natAbs.log2 < 1000000)
def dMul : D → D → Option O1
  | .int i, .int j => if mulOk i j = true then some (.val (.int (i * j))) else none
  | .lst x, .int k => if 0 ≤ k ∧ k ≤ 1000 ∧ x.length ≤ 1000 then some (.newL (List.replicate k.toNat x).flatten) else none
  | .tup x, .int k => if 2 ≤ k ∧ k ≤ 1000 ∧ x.length ≤ 1000 ∧ x.isEmpty = false then some (.newT (List.replicate k.toNat x).flatten) else none
  | _, _ => none
def rMulAll (K : Kf) : R2 := fun x y H Q => rI CMulW (fun i j => .int (i * j)) x y H Q ∨ (rRep x y H Q ∨ rRepT K x y H Q)
theorem op_mulAll {X : Cx} : OpR X (binaryOp .Mult) (rMulAll X.K) := op_mulW.or (op_rep.or op_repT)
theorem opd_mul : OpD K (rMulAll K) dMul := fun F H x y d e o Q s a b eo k => by
  cases d with
  | int i =>
    cases e with
    | int j =>
      unfold dMul at eo
      dsimp only at eo
      split at eo
      · rename_i hc; cases eo; exact .inl ⟨i, j, a, b, show i.natAbs.log2 + j.natAbs.log2 < 1000000 from of_decide_eq_true hc, k _ (.int _)⟩
      · cases eo
    | _ => cases eo
  | lst i =>
    cases e with
    | int j =>
      unfold dMul at eo
      dsimp only at eo
      split at eo
      · rename_i hc
        cases eo
        obtain ⟨l, vs, rfl, h1, r1⟩ := a
        obtain ⟨c1, c2, c3⟩ := hc
        refine .inr (.inl ⟨l, j, vs, rfl, b, h1, by omega, by omega, ?_, fun p hp => k p _ hp (r1.rep _)⟩)
        rw [r1.length, sizeLine_eq]
        exact Nat.le_trans (Nat.mul_le_mul c3 (show j.toNat ≤ 1000 by omega)) (by decide)
      · cases eo
    | _ => cases eo
  | tup i =>
    cases e with
    | int j =>
      unfold dMul at eo
      dsimp only at eo
      split at eo
      · rename_i hc
        cases eo
        obtain ⟨l, vs, rfl, h1, r1, f1⟩ := a
        obtain ⟨c1, c2, c3, c4⟩ := hc
        have l1 := r1.length
        refine .inr (.inr ⟨l, j, vs, rfl, b, .of h1, fun z => ?_, c1, c2, by rw [l1]; exact c3, fun p hp => k p _ hp (r1.rep _)⟩)
        subst z
        cases i with
        | nil => cases c4
        | cons _ _ => simp at l1
      · cases eo
    | _ => cases eo
  | _ => cases eo
end
def divOk (_ j : Int) : Bool := decide (0 < j) && decide (j.natAbs.log2 < 9000)
def powOk (i j : Int) : Bool := decide (0 ≤ j) && decide (j ≤ 1000000) && decide (i.natAbs < 2 ^ 64)
def modOk (_ j : Int) : Bool := decide (0 < j)
def dSub : D → D → Option O1 := f2I0 fun i j => .int (i - j)
def dDiv : D → D → Option O1 := f2I divOk fun i j => .int (i / j)
def dMod : D → D → Option O1 := f2I modOk fun i j => .int (i % j)
def dPow : D → D → Option O1 := f2I powOk fun i j => .int (i ^ j.toNat)
def dLt : D → D → Option O1 := f2I0 fun i j => .bl (decide (i < j))
def dLe : D → D → Option O1 := f2I0 fun i j => .bl (decide (i ≤ j))
def dGt : D → D → Option O1 := f2I0 fun i j => .bl (decide (j < i))
def dGe : D → D → Option O1 := f2I0 fun i j => .bl (decide (j ≤ i))
section
variable {X : Cx} {a b : Expr} {ma mb : ME} {pos : Pos}
theorem do_op {op : Operator} {r : R2} {f : D → D → Option O1} (ho : OpR X (binaryOp op) r) (hd : OpD X.K r f) (ha : DE X a ma) (hb : DE X b mb) : DO X (.BinOp a op b pos) (mOp f ma mb) := peImp (pe_op ho ha hb) fun σ H Q => tOp_of hd
theorem do_add (ha : DE X a ma) (hb : DE X b mb) : DO X (.BinOp a .Add b pos) (mOp dAdd ma mb) := do_op op_addAll opd_add ha hb
theorem do_sub (ha : DE X a ma) (hb : DE X b mb) : DO X (.BinOp a .Sub b pos) (mOp dSub ma mb) := do_op op_sub (opd_I0 fun _ _ _ => .int _) ha hb
theorem do_div (ha : DE X a ma) (hb : DE X b mb) : DO X (.BinOp a .FloorDiv b pos) (mOp dDiv ma mb) := do_op op_fdivW (opd_I (fun i j h => by
  have := Bool.and_eq_true_iff.mp h
  exact ⟨of_decide_eq_true this.1, of_decide_eq_true this.2⟩) fun _ _ _ => .int _) ha hb
theorem do_mod (ha : DE X a ma) (hb : DE X b mb) : DO X (.BinOp a .Mod b pos) (mOp dMod ma mb) := do_op op_mod (opd_I (fun i j h => of_decide_eq_true h) fun _ _ _ => .int _) ha hb
theorem do_pow (ha : DE X a ma) (hb : DE X b mb) : DO X (.BinOp a .Pow b pos) (mOp dPow ma mb) := do_op op_pow (opd_I (fun i j h => by
  have := Bool.and_eq_true_iff.mp h
  have h2 := Bool.and_eq_true_iff.mp this.1
  exact ⟨of_decide_eq_true h2.1, of_decide_eq_true h2.2, of_decide_eq_true this.2⟩) fun _ _ _ => .int _) ha hb
def dNeg : D → Option O1
  | .int i => some (.val (.int (-i)))
  | _ => none
/-! ### comparisons -/
theorem do_cmp {op : CmpOp} {r : R2} {f : D → D → Option O1} (ho : OpR X (compareOp op) r) (hd : OpD X.K r f) (ha : DE X a ma) (hb : DE X b mb) (hm : behindInMarks op b = false) : DO X (.Compare a [op] [b] pos) (mOp f ma mb) := peImp (pe_cmpR ho ha hb hm) fun σ H Q => tOp_of hd
/-- a comparison as a test -/
def mTestO (m : MO) : MT := fun ρ => (m ρ).bind fun p => match p.1 with
  | .val (.bl b) => some (b, p.2)
  | _ => none
theorem dt_cmp {op : CmpOp} {r : R2} {f : D → D → Option O1} (ho : OpR X (compareOp op) r) (hd : OpD X.K r f) (ha : DE X a ma) (hb : DE X b mb) (hm : behindInMarks op b = false) : DT X (.Compare a [op] [b] pos) (mTestO (mOp f ma mb)) := ptImp (pt_cmpR ho ha hb hm) fun σ H Q ⟨G, F, ρ, I, c, ρ', e, k⟩ => by
  obtain ⟨⟨o, ρ1⟩, e1, e⟩ := Option.bind_eq_some_iff.mp e
  refine tOp_of hd ⟨G, F, ρ, I, o, ρ1, e1, fun F1 H1 l1 I1 => ?_⟩
  cases o with
  | val d =>
    cases d with
    | bl b => cases e; exact fun v r => by cases r; exact ⟨_, rfl, k F1 H1 l1 I1⟩
    | _ => cases e
  | _ => cases e
theorem opd_lt {K : Kf} : OpD K (rI0 fun i j => .bl (decide (i < j))) dLt := opd_I0 fun _ _ _ => .bl _
theorem opd_gt {K : Kf} : OpD K (rI0 fun i j => .bl (decide (j < i))) dGt := opd_I0 fun _ _ _ => .bl _
theorem opd_ge {K : Kf} : OpD K (rI0 fun i j => .bl (decide (j ≤ i))) dGe := opd_I0 fun _ _ _ => .bl _
theorem dt_lt (ha : DE X a ma) (hb : DE X b mb) : DT X (.Compare a [.Lt] [b] pos) (mTestO (mOp dLt ma mb)) := dt_cmp op_lt opd_lt ha hb (nomark _)
theorem dt_gt (ha : DE X a ma) (hb : DE X b mb) : DT X (.Compare a [.Gt] [b] pos) (mTestO (mOp dGt ma mb)) := dt_cmp op_gt opd_gt ha hb (nomark _)
theorem dt_ge (ha : DE X a ma) (hb : DE X b mb) : DT X (.Compare a [.GtE] [b] pos) (mTestO (mOp dGe ma mb)) := dt_cmp op_ge opd_ge ha hb (nomark _)
end
/-! ### == of data -/
mutual
def toPy : D → PyData
  | .non => .none
  | .bl b => .bool b
  | .int i => .int i
  | .str x => .str x
  | .tup ds => .tuple (toPys ds)
  | .lst ds => .list (toPys ds)
  | .scr ns => .list (ns.map PyData.int)
  | .dic _ => .dict []
  | .dit _ => .dict []
  | .exc _ _ => .dict []
  | .tpl ds => .tuple (toPys ds)
  | .fn _ => .dict []
  | .nst _ => .dict []
  | .mu _ => .dict []
  | .dtt _ => .dict []
  | .ins _ _ => .dict []
def toPys : List D → List PyData
  | [] => []
  | d :: ds => toPy d :: toPys ds
end
def okD : Nat → D → Bool
  | _, .non => true
  | _, .bl _ => true
  | _, .int _ => true
  | _, .str x => PyData.strOk x
  | n + 1, .tup ds => ds.all (okD n)
  | n + 1, .tpl ds => ds.all (okD n)
  | n + 1, .lst ds => ds.all (okD n)
  | _ + 1, .scr _ => true
  | _, _ => false
theorem toPys_map : ∀ ds : List D, toPys ds = ds.map toPy
  | [] => by simp [toPys]
  | d :: ds => by simp [toPys, toPys_map ds]
theorem canAll_of : ∀ (xs : List PyData), (∀ x ∈ xs, x.canLay0 = true) → PyData.canLayAll0 xs = true
  | [], _ => by simp [PyData.canLayAll0]
  | x :: xs, h => by
    simp only [PyData.canLayAll0, Bool.and_eq_true]
    exact ⟨h x List.mem_cons_self, canAll_of xs fun y hy => h y (List.mem_cons_of_mem _ hy)⟩
theorem depthAll_of {n : Nat} : ∀ (xs : List PyData), (∀ x ∈ xs, x.depth ≤ n) → PyData.depthAll xs ≤ n
  | [], _ => by simp [PyData.depthAll]
  | x :: xs, h => by
    simp only [PyData.depthAll]
    have h1 := h x List.mem_cons_self
    have h2 := depthAll_of xs fun y hy => h y (List.mem_cons_of_mem _ hy)
    omega
theorem okD_can : ∀ (n : Nat) (d : D), okD n d = true → (toPy d).canLay0 = true ∧ (toPy d).depth ≤ n
  | _, .non, _ => by simp [toPy, PyData.canLay0, PyData.depth]
  | _, .bl _, _ => by simp [toPy, PyData.canLay0, PyData.depth]
  | _, .int _, _ => by simp [toPy, PyData.canLay0, PyData.depth]
  | n, .str x, h => by
    have : PyData.strOk x = true := by cases n <;> exact h
    simp [toPy, PyData.canLay0, PyData.depth, this]
  | 0, .tup ds, h => by cases h
  | n + 1, .tup ds, h => by
    have h' : ∀ d ∈ ds, okD n d = true := List.all_eq_true.mp h
    simp only [toPy, toPys_map, PyData.canLay0, PyData.depth]
    refine ⟨canAll_of _ fun x hx => ?_, Nat.succ_le_succ (depthAll_of _ fun x hx => ?_)⟩
    · obtain ⟨d, hd, rfl⟩ := List.mem_map.mp hx; exact (okD_can n d (h' d hd)).1
    · obtain ⟨d, hd, rfl⟩ := List.mem_map.mp hx; exact (okD_can n d (h' d hd)).2
  | 0, .lst ds, h => by cases h
  | n + 1, .lst ds, h => by
    have h' : ∀ d ∈ ds, okD n d = true := List.all_eq_true.mp h
    simp only [toPy, toPys_map, PyData.canLay0, PyData.depth]
    refine ⟨canAll_of _ fun x hx => ?_, Nat.succ_le_succ (depthAll_of _ fun x hx => ?_)⟩
    · obtain ⟨d, hd, rfl⟩ := List.mem_map.mp hx; exact (okD_can n d (h' d hd)).1
    · obtain ⟨d, hd, rfl⟩ := List.mem_map.mp hx; exact (okD_can n d (h' d hd)).2
  | 0, .scr ns, h => by cases h
  | n + 1, .scr ns, h => by
    simp only [toPy, PyData.canLay0, PyData.depth]
    refine ⟨canAll_of _ fun x hx => ?_, Nat.succ_le_succ (depthAll_of _ fun x hx => ?_)⟩
    · obtain ⟨d, hd, rfl⟩ := List.mem_map.mp hx; simp [PyData.canLay0]
    · obtain ⟨d, hd, rfl⟩ := List.mem_map.mp hx; simp [PyData.depth]
  | n, .dic _, h => by cases n <;> cases h
  | n, .dit _, h => by cases n <;> cases h
  | n, .exc _ _, h => by cases n <;> cases h
  | n, .fn _, h => by cases n <;> cases h
  | n, .nst _, h => by cases n <;> cases h
  | n, .mu _, h => by cases n <;> cases h
  | n, .dtt _, h => by cases n <;> cases h
  | n, .ins _ _, h => by cases n <;> cases h
  | 0, .tpl ds, h => by cases h
  | n + 1, .tpl ds, h => by
    have h' : ∀ d ∈ ds, okD n d = true := List.all_eq_true.mp h
    simp only [toPy, toPys_map, PyData.canLay0, PyData.depth]
    refine ⟨canAll_of _ fun x hx => ?_, Nat.succ_le_succ (depthAll_of _ fun x hx => ?_)⟩
    · obtain ⟨d, hd, rfl⟩ := List.mem_map.mp hx; exact (okD_can n d (h' d hd)).1
    · obtain ⟨d, hd, rfl⟩ := List.mem_map.mp hx; exact (okD_can n d (h' d hd)).2
theorem shaped_of {n : Nat} (hn : n ≤ 64) {d : D} (h : okD n d = true) : SeqAt.shaped (toPy d) = true := by
  obtain ⟨h1, h2⟩ := okD_can n d h
  unfold SeqAt.shaped
  rw [h1, decide_eq_true (Nat.le_trans h2 hn)]
  rfl
mutual
theorem R.dp {K : Kf} {F H : Hp} (s : Sub F H) : ∀ {v : V} {d : D} (n : Nat), okD n d = true → R K F v d → Dp K H v (toPy d)
  | _, _, n, _, .non => by rw [toPy]; exact .non
  | _, _, n, _, .bl b => by rw [toPy]; exact .bl b
  | _, _, n, _, .int i => by rw [toPy]; exact .int i
  | _, _, n, _, .str x => by rw [toPy]; exact .str x
  | _, _, 0, h, .tup _ _ => by cases h
  | _, _, n + 1, h, .tup e a => by rw [toPy]; exact .tup (.of (s.nd e rfl)) (RA.dp s n h a)
  | _, _, 0, h, .lst _ _ => by cases h
  | _, _, n + 1, h, .lst e a => by rw [toPy]; exact .lst (.of (s.nd e rfl)) (RA.dp s n h a)
  | _, .scr ns, n, h, .scr e => by
    rw [toPy]
    refine .lst (s.sq e) ?_
    clear e h
    induction ns with
    | nil => exact .nil
    | cons i ns ih => exact .cons (.int i) ih
  | _, _, n, h, .dic _ _ => by cases n <;> cases h
  | _, _, n, h, .dit _ _ => by cases n <;> cases h
  | _, _, n, h, .ex0 _ _ => by cases n <;> cases h
  | _, _, n, h, .ex1 _ _ _ _ => by cases n <;> cases h
  | _, _, n, h, .exs _ _ _ => by cases n <;> cases h
  | _, _, n, h, .fn _ => by cases n <;> cases h
  | _, _, n, h, .nst => by cases n <;> cases h
  | _, _, n, h, .dtt => by cases n <;> cases h
  | _, _, n, h, .ins => by cases n <;> cases h
  | _, _, 0, h, .tpl _ _ _ => by cases h
  | _, _, n + 1, h, .tpl e _ a => by rw [toPy]; exact .tup (.inl (.inr ⟨_, s.nd e rfl⟩)) (RA.dp s n h a)
theorem RA.dp {K : Kf} {F H : Hp} (s : Sub F H) : ∀ {v : List V} {d : List D} (n : Nat), d.all (okD n) = true → RA K F v d → DpAll K H v (toPys d)
  | _, _, n, _, .nil => by rw [toPys]; exact .nil
  | _, _, n, h, .cons r t => by
    rw [toPys]
    rw [List.all_cons, Bool.and_eq_true] at h
    exact .cons (R.dp s n h.1 r) (RA.dp s n h.2 t)
end
theorem R1.dp {K : Kf} {F H : Hp} (s : Sub F H) {v : V} {d : D} {n : Nat} (h : okD n d = true) (r : R1 K F H v d) : Dp K H v (toPy d) := by
  cases d with
  | non => rw [show v = .non from r, toPy]; exact .non
  | bl b => rw [show v = .bl b from r, toPy]; exact .bl b
  | int b => rw [show v = .int b from r, toPy]; exact .int b
  | str b => rw [show v = .str b from r, toPy]; exact .str b
  | tup ds =>
    cases n with
    | zero => cases h
    | succ n => obtain ⟨a, vs, rfl, h1, r1, _⟩ := r; rw [toPy]; exact .tup (.of h1) (RA.dp s n h r1)
  | tpl ds =>
    cases n with
    | zero => cases h
    | succ n => obtain ⟨a, ob, vs, rfl, h1, _, r1, _⟩ := r; rw [toPy]; exact .tup (.inl (.inr ⟨_, h1⟩)) (RA.dp s n h r1)
  | lst ds =>
    cases n with
    | zero => cases h
    | succ n => obtain ⟨a, vs, rfl, h1, r1⟩ := r; rw [toPy]; exact .lst (.of h1) (RA.dp s n h r1)
  | scr ns =>
    obtain ⟨a, rfl, e⟩ := r
    rw [toPy]
    refine .lst e ?_
    clear e h
    induction ns with
    | nil => exact .nil
    | cons i ns ih => exact .cons (.int i) ih
  | dic _ => cases n <;> cases h
  | dit _ => cases n <;> cases h
  | exc _ _ => cases n <;> cases h
  | fn _ => cases n <;> cases h
  | nst _ => cases n <;> cases h
  | dtt _ => cases n <;> cases h
  | ins _ _ => cases n <;> cases h
  | mu _ => cases n <;> cases h
def eqD (d e : D) : Bool := PyData.eqv (toPy d) (toPy e)
def dEq : D → D → Option O1
  | .int i, .int j => some (.val (.bl (decide (i = j))))
  | .str i, .str j => some (.val (.bl (decide (i = j))))
  | .bl i, .bl j => some (.val (.bl (decide (i = j))))
  | d, e => if okD 8 d = true ∧ okD 8 e = true then some (.val (.bl (eqD d e))) else none
def dNe : D → D → Option O1
  | .int i, .int j => some (.val (.bl (!decide (i = j))))
  | .str i, .str j => some (.val (.bl (!decide (i = j))))
  | .bl i, .bl j => some (.val (.bl (!decide (i = j))))
  | d, e => if okD 8 d = true ∧ okD 8 e = true then some (.val (.bl (!eqD d e))) else none
def rEqAll (K : Kf) : R2 := fun x y H Q => rEq x y H Q ∨ rEqD K x y H Q
def rNeAll (K : Kf) : R2 := fun x y H Q => rNe x y H Q ∨ rNeD K x y H Q
theorem dEq_cases {d e : D} {o : O1} (h : dEq d e = some o) : (∃ i j, d = .int i ∧ e = .int j ∧ o = .val (.bl (decide (i = j)))) ∨ (∃ i j, d = .str i ∧ e = .str j ∧ o = .val (.bl (decide (i = j)))) ∨ (∃ i j, d = .bl i ∧ e = .bl j ∧ o = .val (.bl (decide (i = j)))) ∨
    (okD 8 d = true ∧ okD 8 e = true ∧ o = .val (.bl (eqD d e))) := by
  unfold dEq at h
  split at h
  · cases h; exact .inl ⟨_, _, rfl, rfl, rfl⟩
  · cases h; exact .inr (.inl ⟨_, _, rfl, rfl, rfl⟩)
  · cases h; exact .inr (.inr (.inl ⟨_, _, rfl, rfl, rfl⟩))
  · split at h
    · rename_i hc; cases h; exact .inr (.inr (.inr ⟨hc.1, hc.2, rfl⟩))
    · cases h
theorem dNe_cases {d e : D} {o : O1} (h : dNe d e = some o) : (∃ i j, d = .int i ∧ e = .int j ∧ o = .val (.bl (!decide (i = j)))) ∨ (∃ i j, d = .str i ∧ e = .str j ∧ o = .val (.bl (!decide (i = j)))) ∨ (∃ i j, d = .bl i ∧ e = .bl j ∧ o = .val (.bl (!decide (i = j)))) ∨
    (okD 8 d = true ∧ okD 8 e = true ∧ o = .val (.bl (!eqD d e))) := by
  unfold dNe at h
  split at h
  · cases h; exact .inl ⟨_, _, rfl, rfl, rfl⟩
  · cases h; exact .inr (.inl ⟨_, _, rfl, rfl, rfl⟩)
  · cases h; exact .inr (.inr (.inl ⟨_, _, rfl, rfl, rfl⟩))
  · split at h
    · rename_i hc; cases h; exact .inr (.inr (.inr ⟨hc.1, hc.2, rfl⟩))
    · cases h
theorem opd_eq {K : Kf} : OpD K (rEqAll K) dEq := fun F H x y d e o Q s a b eo k => by
  rcases dEq_cases eo with ⟨i, j, rfl, rfl, rfl⟩ | ⟨i, j, rfl, rfl, rfl⟩ | ⟨i, j, rfl, rfl, rfl⟩ | ⟨h1, h2, rfl⟩
  · cases (show x = .int i from a); cases (show y = .int j from b)
    refine .inl ⟨rfl, ?_⟩
    have : decide (V.int i = V.int j) = decide (i = j) := by simp
    rw [this]; exact k _ (.bl _)
  · cases (show x = .str i from a); cases (show y = .str j from b)
    refine .inl ⟨rfl, ?_⟩
    have : decide (V.str i = V.str j) = decide (i = j) := by simp
    rw [this]; exact k _ (.bl _)
  · cases (show x = .bl i from a); cases (show y = .bl j from b)
    refine .inl ⟨rfl, ?_⟩
    have : decide (V.bl i = V.bl j) = decide (i = j) := by simp
    rw [this]; exact k _ (.bl _)
  · exact .inr ⟨toPy d, toPy e, R1.dp s h1 a, R1.dp s h2 b, shaped_of (by decide) h1, shaped_of (by decide) h2, k _ (.bl _)⟩
theorem opd_ne {K : Kf} : OpD K (rNeAll K) dNe := fun F H x y d e o Q s a b eo k => by
  rcases dNe_cases eo with ⟨i, j, rfl, rfl, rfl⟩ | ⟨i, j, rfl, rfl, rfl⟩ | ⟨i, j, rfl, rfl, rfl⟩ | ⟨h1, h2, rfl⟩
  · cases (show x = .int i from a); cases (show y = .int j from b)
    refine .inl ⟨rfl, ?_⟩
    have : decide (V.int i = V.int j) = decide (i = j) := by simp
    rw [this]; exact k _ (.bl _)
  · cases (show x = .str i from a); cases (show y = .str j from b)
    refine .inl ⟨rfl, ?_⟩
    have : decide (V.str i = V.str j) = decide (i = j) := by simp
    rw [this]; exact k _ (.bl _)
  · cases (show x = .bl i from a); cases (show y = .bl j from b)
    refine .inl ⟨rfl, ?_⟩
    have : decide (V.bl i = V.bl j) = decide (i = j) := by simp
    rw [this]; exact k _ (.bl _)
  · exact .inr ⟨toPy d, toPy e, R1.dp s h1 a, R1.dp s h2 b, shaped_of (by decide) h1, shaped_of (by decide) h2, k _ (.bl _)⟩
section
variable {X : Cx} {a b : Expr} {ma mb : ME} {pos : Pos}
theorem do_eq (hu : X.A.units + 64 < cLine) (ha : DE X a ma) (hb : DE X b mb) : DO X (.Compare a [.Eq] [b] pos) (mOp dEq ma mb) := do_cmp (op_eq.or (op_eqD hu)) opd_eq ha hb (nomark _)
theorem dt_eq (hu : X.A.units + 64 < cLine) (ha : DE X a ma) (hb : DE X b mb) : DT X (.Compare a [.Eq] [b] pos) (mTestO (mOp dEq ma mb)) := dt_cmp (op_eq.or (op_eqD hu)) opd_eq ha hb (nomark _)
theorem dt_ne (hu : X.A.units + 64 < cLine) (ha : DE X a ma) (hb : DE X b mb) : DT X (.Compare a [.NotEq] [b] pos) (mTestO (mOp dNe ma mb)) := dt_cmp (op_ne.or (op_neD hu)) opd_ne ha hb (nomark _)
/-- is None -/
def isNonD : D → Bool
  | .non => true
  | _ => false
def dIs : D → D → Option O1
  | d, .non => some (.val (.bl (isNonD d)))
  | _, _ => none
def dIsNot : D → D → Option O1
  | d, .non => some (.val (.bl (!isNonD d)))
  | _, _ => none
theorem R1.isNon {K : Kf} {F H : Hp} {v : V} {d : D} (r : R1 K F H v d) : decide (v = V.non) = isNonD d := by
  cases d with
  | non => rw [show v = .non from r]; rfl
  | bl b => rw [show v = .bl b from r]; rfl
  | int b => rw [show v = .int b from r]; rfl
  | str b => rw [show v = .str b from r]; rfl
  | tup ds => obtain ⟨a, vs, rfl, _⟩ := r; rfl
  | lst ds => obtain ⟨a, vs, rfl, _⟩ := r; rfl
  | scr ds => obtain ⟨a, rfl, _⟩ := r; rfl
  | dic ds => obtain ⟨a, vs, rfl, _⟩ := r; rfl
  | dit ds => obtain ⟨a, vs, rfl, _⟩ := r; rfl
  | exc c fs => rcases r with ⟨a, C, d, rfl, _⟩ | ⟨a, C, t, s, rfl, _⟩ <;> rfl
  | tpl ds => obtain ⟨a, ob, vs, rfl, _⟩ := r; rfl
  | fn c => obtain ⟨a, rfl, _⟩ := r; rfl
  | nst c => obtain ⟨a, rfl⟩ := r; rfl
  | dtt c => obtain ⟨a, rfl⟩ := r; rfl
  | ins c fs => obtain ⟨a, rfl⟩ := r; rfl
  | mu c => exact r.elim
theorem opd_is {K : Kf} : OpD K (fun x y H Q => y = .non ∧ Q (.bl (decide (x = .non))) H) dIs := fun F H x y d e o Q s a b eo k => by
  cases e with
  | non => cases eo; exact ⟨b, by rw [a.isNon]; exact k _ (.bl _)⟩
  | _ => cases eo
theorem opd_isnot {K : Kf} : OpD K (fun x y H Q => y = .non ∧ Q (.bl (!decide (x = .non))) H) dIsNot := fun F H x y d e o Q s a b eo k => by
  cases e with
  | non => cases eo; exact ⟨b, by rw [a.isNon]; exact k _ (.bl _)⟩
  | _ => cases eo
theorem do_is (ha : DE X a ma) (hb : DE X b mb) : DO X (.Compare a [.Is] [b] pos) (mOp dIs ma mb) := do_cmp op_isN opd_is ha hb (nomark _)
theorem dt_isnot (ha : DE X a ma) (hb : DE X b mb) : DT X (.Compare a [.IsNot] [b] pos) (mTestO (mOp dIsNot ma mb)) := dt_cmp op_notN opd_isnot ha hb (nomark _)
end
end DL

set_option Elab.async false
set_option linter.all false
set_option maxRecDepth 100000
set_option maxHeartbeats 4000000
namespace DL
open PySem PySem.Spec PyProof.Rows L2

/-! ### keys of dicts -/
def keyOf : D → Option Key
  | .int i => some (.inl i)
  | .str x => some (.inr x)
  | _ => none
def keysL : List D → Option (List Key)
  | [] => some []
  | d :: ds => (keyOf d).bind fun k => (keysL ds).bind fun ks => some (k :: ks)
def keysOf : D → Option (List Key)
  | .tup ds => keysL ds
  | _ => none
theorem keyOf_keyD (k : Key) : keyOf (keyD k) = some k := by cases k <;> rfl
theorem keyOf_eq {d : D} {k : Key} (h : keyOf d = some k) : d = keyD k := by
  cases d <;> cases h <;> rfl
theorem keysL_map : ∀ ks : List Key, keysL (ks.map keyD) = some ks
  | [] => rfl
  | k :: ks => by simp [keysL, keyOf_keyD, keysL_map ks]
theorem keysL_eq : ∀ {ds : List D} {ks : List Key}, keysL ds = some ks → ds = ks.map keyD
  | [], ks, h => by cases h; rfl
  | d :: ds, ks, h => by
    unfold keysL at h
    obtain ⟨k, e1, e⟩ := Option.bind_eq_some_iff.mp h
    obtain ⟨ks', e2, e⟩ := Option.bind_eq_some_iff.mp e
    cases e
    rw [List.map_cons, ← keyOf_eq e1, ← keysL_eq e2]
theorem keysOf_eq {d : D} {ks : List Key} (h : keysOf d = some ks) : d = .tup (ks.map keyD) := by
  cases d <;> first | (cases h; done) | (rw [keysL_eq h])
section
variable {κ : Type} [DecidableEq κ]
def kGet (ko : D → Option κ) (kvs : List (D × D)) (k : κ) : Option D := (kvs.find? fun kv => decide (ko kv.1 = some k)).map (·.2)
def kPut (ko : D → Option κ) (kvs : List (D × D)) (dk : D) (k : κ) (v : D) : List (D × D) :=
  if (kvs.any fun kv => decide (ko kv.1 = some k)) = true then kvs.map (fun kv => if ko kv.1 = some k then (kv.1, v) else kv) else kvs ++ [(dk, v)]
end
section
variable {K : Kf} {F : Hp}
theorem RK.get (k : Key) : ∀ {vs : List (Key × V)} {ds : List (D × D)}, RK K F vs ds → (∀ d, kGet keyOf ds k = some d → ∃ v, valV vs k = some v ∧ R K F v d) ∧ (kGet keyOf ds k = none → valV vs k = none)
  | _, _, .nil => ⟨fun d h => (by cases h), fun _ => rfl⟩
  | _, _, .cons (k := k0) (v := v0) (vs := vs) (d := d0) (ds := ds) r t => by
    have ih := RK.get k t
    by_cases e : k0 = k
    · subst e
      have h1 : kGet keyOf ((keyD k0, d0) :: ds) k0 = some d0 := by unfold kGet; rw [List.find?_cons]; simp [keyOf_keyD]
      rw [h1, valV_pos rfl]
      exact ⟨fun d h => by cases h; exact ⟨_, rfl, r⟩, fun h => by cases h⟩
    · have h1 : kGet keyOf ((keyD k0, d0) :: ds) k = kGet keyOf ds k := by unfold kGet; rw [List.find?_cons]; simp [keyOf_keyD, e]
      rw [h1, valV_neg e]
      exact ih
theorem RT.get (k : List Key) : ∀ {vs : List (List Key × V)} {ds : List (D × D)}, RT K F vs ds → (∀ d, kGet keysOf ds k = some d → ∃ v, valV vs k = some v ∧ R K F v d) ∧ (kGet keysOf ds k = none → valV vs k = none)
  | _, _, .nil => ⟨fun d h => (by cases h), fun _ => rfl⟩
  | _, _, .cons (k := k0) (v := v0) (vs := vs) (d := d0) (ds := ds) r t => by
    have ih := RT.get k t
    have ek : keysOf (.tup (k0.map keyD)) = some k0 := keysL_map k0
    by_cases e : k0 = k
    · subst e
      have h1 : kGet keysOf ((.tup (k0.map keyD), d0) :: ds) k0 = some d0 := by unfold kGet; rw [List.find?_cons]; simp [ek]
      rw [h1, valV_pos rfl]
      exact ⟨fun d h => by cases h; exact ⟨_, rfl, r⟩, fun h => by cases h⟩
    · have h1 : kGet keysOf ((.tup (k0.map keyD), d0) :: ds) k = kGet keysOf ds k := by unfold kGet; rw [List.find?_cons]; simp [ek, e]
      rw [h1, valV_neg e]
      exact ih
theorem RK.any (k : Key) : ∀ {vs : List (Key × V)} {ds : List (D × D)}, RK K F vs ds → (vs.any fun kv => decide (kv.1 = k)) = (ds.any fun kv => decide (keyOf kv.1 = some k))
  | _, _, .nil => rfl
  | _, _, .cons r t => by rw [List.any_cons, List.any_cons, RK.any k t]; simp [keyOf_keyD]
theorem RT.any (k : List Key) : ∀ {vs : List (List Key × V)} {ds : List (D × D)}, RT K F vs ds → (vs.any fun kv => decide (kv.1 = k)) = (ds.any fun kv => decide (keysOf kv.1 = some k))
  | _, _, .nil => rfl
  | _, _, .cons (k := k0) r t => by
    have ek : keysOf (.tup (k0.map keyD)) = some k0 := keysL_map k0
    rw [List.any_cons, List.any_cons, RT.any k t]; simp [ek]
theorem RK.repl (k : Key) {v : V} {d : D} (r0 : R K F v d) : ∀ {vs : List (Key × V)} {ds : List (D × D)}, RK K F vs ds → RK K F (vs.map fun kv => if kv.1 = k then (kv.1, v) else kv) (ds.map fun kv => if keyOf kv.1 = some k then (kv.1, d) else kv)
  | _, _, .nil => .nil
  | _, _, .cons (k := k0) r t => by
    rw [List.map_cons, List.map_cons]
    by_cases e : k0 = k
    · rw [if_pos e, if_pos (by rw [keyOf_keyD, e])]; exact .cons r0 (RK.repl k r0 t)
    · rw [if_neg e, if_neg (by rw [keyOf_keyD]; simpa using e)]; exact .cons r (RK.repl k r0 t)
theorem RT.repl (k : List Key) {v : V} {d : D} (r0 : R K F v d) : ∀ {vs : List (List Key × V)} {ds : List (D × D)}, RT K F vs ds → RT K F (vs.map fun kv => if kv.1 = k then (kv.1, v) else kv) (ds.map fun kv => if keysOf kv.1 = some k then (kv.1, d) else kv)
  | _, _, .nil => .nil
  | _, _, .cons (k := k0) r t => by
    have ek : keysOf (.tup (k0.map keyD)) = some k0 := keysL_map k0
    rw [List.map_cons, List.map_cons]
    by_cases e : k0 = k
    · rw [if_pos e, if_pos (by rw [ek, e])]; exact .cons r0 (RT.repl k r0 t)
    · rw [if_neg e, if_neg (by rw [ek]; simpa using e)]; exact .cons r (RT.repl k r0 t)
theorem RK.append : ∀ {vs ws : List (Key × V)} {ds es : List (D × D)}, RK K F vs ds → RK K F ws es → RK K F (vs ++ ws) (ds ++ es)
  | _, _, _, _, .nil, h => h
  | _, _, _, _, .cons r t, h => .cons r (RK.append t h)
theorem RT.append : ∀ {vs ws : List (List Key × V)} {ds es : List (D × D)}, RT K F vs ds → RT K F ws es → RT K F (vs ++ ws) (ds ++ es)
  | _, _, _, _, .nil, h => h
  | _, _, _, _, .cons r t, h => .cons r (RT.append t h)
theorem RK.put {vs : List (Key × V)} {ds : List (D × D)} (h : RK K F vs ds) (k : Key) {v : V} {d : D} (r : R K F v d) : RK K F (putK vs k v) (kPut keyOf ds (keyD k) k d) := by
  unfold putK kPut
  rw [h.any k]
  split
  · exact h.repl k r
  · exact h.append (.cons r .nil)
theorem RT.put {vs : List (List Key × V)} {ds : List (D × D)} (h : RT K F vs ds) (k : List Key) {v : V} {d : D} (r : R K F v d) : RT K F (putK vs k v) (kPut keysOf ds (.tup (k.map keyD)) k d) := by
  unfold putK kPut
  rw [h.any k]
  split
  · exact h.repl k r
  · exact h.append (.cons r .nil)
theorem RK.length : ∀ {vs : List (Key × V)} {ds : List (D × D)}, RK K F vs ds → vs.length = ds.length
  | _, _, .nil => rfl
  | _, _, .cons _ t => by rw [List.length_cons, List.length_cons, RK.length t]
theorem RT.length : ∀ {vs : List (List Key × V)} {ds : List (D × D)}, RT K F vs ds → vs.length = ds.length
  | _, _, .nil => rfl
  | _, _, .cons _ t => by rw [List.length_cons, List.length_cons, RT.length t]
end
/-- d[k] by data -/
def dicGet : D → D → Option (Option D)
  | .dic kv, d => (keyOf d).bind fun k => some (kGet keyOf kv k)
  | .dit kv, d => (keysOf d).bind fun k => some (kGet keysOf kv k)
  | _, _ => none
theorem dicGet_ok {K : Kf} {F H : Hp} {x y : V} {d e : D} {r : Option D} (a : R1 K F H x d) (b : R1 K F H y e) (h : dicGet d e = some r) : ∃ p o, x = .ref p ∧ DGet H p y o ∧ IsD H p ∧ (∀ z, r = some z → ∃ v, o = some v ∧ R K F v z) ∧ (r = none → o = none) := by
  cases d with
  | dic kv =>
    obtain ⟨k, ek, h⟩ := Option.bind_eq_some_iff.mp h
    cases h
    obtain ⟨p, kvs, rfl, rd, rk⟩ := a
    have ey := keyOf_eq ek
    subst ey
    have eyv : y = kV k := by cases k <;> exact b
    subst eyv
    have g := rk.get k
    exact ⟨p, _, rfl, .inl ⟨kvs, k, rd, rfl, rfl⟩, .inl ⟨kvs, rd⟩, fun z hz => g.1 z hz, g.2⟩
  | dit kv =>
    obtain ⟨k, ek, h⟩ := Option.bind_eq_some_iff.mp h
    cases h
    obtain ⟨p, kvs, rfl, rd, rk⟩ := a
    have ey := keysOf_eq ek
    subst ey
    obtain ⟨q, vs, rfl, h1, r1, _⟩ := b
    have e2 := r1.keys
    subst e2
    have g := rk.get k
    exact ⟨p, _, rfl, .inr ⟨kvs, k, q, rd, rfl, h1, rfl⟩, .inr ⟨kvs, rd⟩, fun z hz => g.1 z hz, g.2⟩
  | _ => cases h
/-! ### in -/
def flatD : D → Bool
  | .non => true
  | .bl _ => true
  | .int _ => true
  | .str _ => true
  | _ => false
theorem flat_eq {K : Kf} {F : Hp} {v w : V} {d e : D} (a : R K F v d) (b : R K F w e) (fa : flatD d = true) (fb : flatD e = true) : flatV v = true ∧ flatV w = true ∧ eqV v w = eqD d e := by
  cases a <;> first | (cases fa; done) | (cases b <;> first | (cases fb; done) | (refine ⟨rfl, rfl, ?_⟩; simp [eqV, eqD, toPy, PyData.eqv]))
theorem R1.flat {K : Kf} {F H : Hp} {v : V} {d : D} (h : R1 K F H v d) (f : flatD d = true) : R K F v d := by
  cases d <;> first | (cases f; done) | (cases h; constructor)
theorem flat_any {K : Kf} {F : Hp} {v : V} {d : D} (a : R K F v d) (fa : flatD d = true) : ∀ {vs : List V} {ds : List D}, RA K F vs ds → ds.all flatD = true → vs.all flatV = true ∧ inV v vs = ds.any fun z => eqD z d
  | _, _, .nil, _ => ⟨rfl, rfl⟩
  | _, _, .cons r t, h => by
    rw [List.all_cons, Bool.and_eq_true] at h
    obtain ⟨h1, h2, h3⟩ := flat_eq r a h.1 fa
    obtain ⟨h4, h5⟩ := flat_any a fa t h.2
    refine ⟨by rw [List.all_cons, h1, h4]; rfl, ?_⟩
    unfold inV at h5 ⊢
    rw [List.any_cons, List.any_cons, h3, h5]
def seqD : D → Option (List D)
  | .lst ds => some ds
  | .tup ds => some ds
  | .tpl ds => some ds
  | .scr ns => some (ns.map D.int)
  | _ => none
/-- the sequence at a value -/
theorem R1.seq {K : Kf} {F H : Hp} {v : V} {d : D} {ds : List D} (h : R1 K F H v d) (e : seqD d = some ds) : ∃ a vs, v = .ref a ∧ (SqL K H a vs ∨ SqT K H a vs) ∧ RA K F vs ds := by
  cases d with
  | lst _ => cases e; obtain ⟨a, vs, rfl, h1, r⟩ := h; exact ⟨a, vs, rfl, .inl (.of h1), r⟩
  | tup _ => cases e; obtain ⟨a, vs, rfl, h1, r, _⟩ := h; exact ⟨a, vs, rfl, .inr (.of h1), r⟩
  | tpl _ => cases e; obtain ⟨a, ob, vs, rfl, h1, _, r, _⟩ := h; exact ⟨a, vs, rfl, .inr (.inl (.inr ⟨_, h1⟩)), r⟩
  | scr ns => cases e; obtain ⟨a, rfl, h1⟩ := h; exact ⟨a, _, rfl, .inl h1, RA.of_ints ns⟩
  | _ => cases e
def inFlat (d e : D) : Option Bool := (seqD e).bind fun ds => if flatD d = true ∧ ds.all flatD = true then some (ds.any fun z => eqD z d) else none
def inDeep (d e : D) : Option Bool := match e with
  | .lst ds => if okD 8 d = true ∧ okD 8 (.lst ds) = true then some (ds.any fun z => eqD z d) else none
  | _ => none
def inSign (d e : D) : Option Bool := match d, e with
  | .str x, .str z => match x.cps.toList with
    | [c] => some (decide (c ∈ z.cps.toList))
    | _ => none
  | _, _ => none
def inDic (d e : D) : Option Bool := (dicGet e d).bind fun o => some o.isSome
def dInB (d e : D) : Option Bool := (inFlat d e).or ((inDeep d e).or ((inSign d e).or (inDic d e)))
def dIn (d e : D) : Option O1 := (dInB d e).bind fun b => some (.val (.bl b))
def dNotIn (d e : D) : Option O1 := (dInB d e).bind fun b => some (.val (.bl (!b)))
def rInAll (K : Kf) (neg : Bool) : R2 := fun x y H Q => ∃ b : Bool, (Q (.bl (if neg then !b else b)) H) ∧
  ((∃ p xs, y = .ref p ∧ (SqL K H p xs ∨ SqT K H p xs) ∧ flatV x = true ∧ xs.all flatV = true ∧ inV x xs = b) ∨
   (∃ d ds, Dp K H x d ∧ Dp K H y (.list ds) ∧ SeqAt.shaped d = true ∧ SeqAt.shaped (.list ds) = true ∧ (ds.any fun z => PyData.eqv z d) = b) ∨
   (∃ (c : Nat) (z : Str), x = .str ⟨#[c]⟩ ∧ y = .str z ∧ decide (c ∈ z.cps.toList) = b))
theorem toPys_any {d : D} : ∀ ds : List D, ((toPys ds).any fun z => PyData.eqv z (toPy d)) = ds.any fun z => eqD z d
  | [] => by simp [toPys]
  | e :: ds => by simp [toPys, toPys_any ds, eqD]
theorem inAll_of {K : Kf} {neg : Bool} {F H : Hp} {x y : V} {d e : D} {b : Bool} {Q : VK} (s : Sub F H) (a : R1 K F H x d) (r : R1 K F H y e) (h : (inFlat d e).or ((inDeep d e).or (inSign d e)) = some b) (q : Q (.bl (if neg then !b else b)) H) : rInAll K neg x y H Q := by
  refine ⟨b, q, ?_⟩
  cases h1 : inFlat d e with
  | some c =>
    rw [h1] at h
    cases h
    obtain ⟨ds, e1, h2⟩ := Option.bind_eq_some_iff.mp h1
    split at h2
    · rename_i hc
      cases h2
      obtain ⟨p, vs, rfl, hs, rs⟩ := r.seq e1
      obtain ⟨k1, k2⟩ := flat_any (a.flat hc.1) hc.1 rs hc.2
      refine .inl ⟨p, vs, rfl, hs, ?_, k1, k2⟩
      cases d <;> first | (cases hc.1; done) | (cases a; rfl)
    · cases h2
  | none =>
    rw [h1] at h
    cases h3 : inDeep d e with
    | some c =>
      rw [h3] at h
      cases h
      cases e with
      | lst ds =>
        unfold inDeep at h3
        dsimp only at h3
        split at h3
        · rename_i hc
          cases h3
          have hd := R1.dp s hc.2 r
          have hsh := shaped_of (by decide) hc.2
          rw [toPy] at hd hsh
          exact .inr (.inl ⟨toPy d, toPys ds, R1.dp s hc.1 a, hd, shaped_of (by decide) hc.1, hsh, toPys_any ds⟩)
        · cases h3
      | _ => cases h3
    | none =>
      rw [h3] at h
      have h : inSign d e = some b := h
      cases d with
      | str x0 =>
        cases e with
        | str z =>
          unfold inSign at h
          dsimp only at h
          split at h
          · rename_i c hc
            cases h
            refine .inr (.inr ⟨c, z, ?_, r, rfl⟩)
            rw [show x = .str x0 from a]
            congr 1
            cases x0 with
            | mk cps => congr 1; exact Array.ext' hc
          · cases h
        | _ => cases h
      | _ => cases h
theorem op_notInAll {X : Cx} (hu : X.A.units + 65 < cLine) : OpR X (compareOp .NotIn) (rInAll X.K true) := fun pins s σ H x y v u Q I rx ry ⟨b, q, h⟩ => by
  rcases h with ⟨p, xs, rfl, hs, f1, f2, rfl⟩ | ⟨d, ds, h1, h2, h3, h4, rfl⟩ | ⟨c, z, rfl, rfl, rfl⟩
  · exact op_notIn_seq pins s σ H _ _ v u Q I rx ry ⟨p, xs, rfl, hs, f1, f2, q⟩
  · exact op_notInD hu pins s σ H _ _ v u Q I rx ry ⟨d, ds, h1, h2, h3, h4, q⟩
  · exact op_notIn_sign pins s σ H _ _ v u Q I rx ry ⟨c, z, rfl, rfl, q⟩
theorem or_assoc4 {α : Type} (a b c d : Option α) : a.or (b.or (c.or d)) = (a.or (b.or c)).or d := by cases a <;> cases b <;> cases c <;> rfl
section
variable {X : Cx} {a b : Expr} {ma mb : ME} {pos : Pos}
theorem in_of {K : Kf} {neg : Bool} {σ : L2.St} {H : Hp} {Q : VK} (w : tO K (mOp (if neg then dNotIn else dIn) ma mb) σ H Q) :
    (tOp (rInAll K neg) (tE K ma) (tE K mb) σ H Q) ∨ (tE K ma σ H fun y H1 => tE K mb σ H1 fun x H2 => ∃ a o, x = .ref a ∧ DGet H2 a y o ∧ Q (.bl (if neg then !o.isSome else o.isSome)) H2) := by
  obtain ⟨G, F, ρ, I, o, ρ', e, k⟩ := w
  obtain ⟨⟨r1, ρ1⟩, e1, e⟩ := Option.bind_eq_some_iff.mp e
  obtain ⟨⟨r2, ρ2⟩, e2, e⟩ := Option.bind_eq_some_iff.mp e
  obtain ⟨d1, e3, e⟩ := Option.bind_eq_some_iff.mp e
  obtain ⟨d2, e4, e⟩ := Option.bind_eq_some_iff.mp e
  obtain ⟨o', e5, e⟩ := Option.bind_eq_some_iff.mp e
  cases e
  have h5 : ∃ c, dInB d1 d2 = some c ∧ o = .val (.bl (if neg then !c else c)) := by
    cases neg with
    | false => obtain ⟨c, h1, h2⟩ := Option.bind_eq_some_iff.mp e5; cases h2; exact ⟨c, h1, rfl⟩
    | true => obtain ⟨c, h1, h2⟩ := Option.bind_eq_some_iff.mp e5; cases h2; exact ⟨c, h1, rfl⟩
  obtain ⟨c, h5, rfl⟩ := h5
  unfold dInB at h5
  rw [or_assoc4] at h5
  cases hq : (inFlat d1 d2).or ((inDeep d1 d2).or (inSign d1 d2)) with
  | some c' =>
    rw [hq] at h5
    cases h5
    refine .inl ⟨G, F, ρ, I, r1, ρ1, e1, fun F1 H1 v1 l1 I1 k1 => ⟨G, F1, ρ1, I1, r2, _, e2, fun F2 H2 v2 l2 I2 k2 => ?_⟩⟩
    exact inAll_of I2.sub (I2.vw (k1.mono l2) e3) (I2.vw k2 e4) hq (k F2 H2 (l1.trans l2) I2 _ (.bl _))
  | none =>
    rw [hq] at h5
    obtain ⟨o2, h6, h7⟩ := Option.bind_eq_some_iff.mp (show inDic d1 d2 = some c from h5)
    cases h7
    refine .inr ⟨G, F, ρ, I, r1, ρ1, e1, fun F1 H1 v1 l1 I1 k1 => ⟨G, F1, ρ1, I1, r2, _, e2, fun F2 H2 v2 l2 I2 k2 => ?_⟩⟩
    obtain ⟨p, ov, rfl, dg, _, g1, g2⟩ := dicGet_ok (I2.vw k2 e4) (I2.vw (k1.mono l2) e3) h6
    have eo : o2.isSome = ov.isSome := by
      cases o2 with
      | none => rw [g2 rfl]; rfl
      | some z => obtain ⟨v, h, _⟩ := g1 z rfl; rw [h]; rfl
    rw [eo] at k
    exact ⟨p, ov, rfl, dg, k F2 H2 (l1.trans l2) I2 _ (.bl _)⟩
theorem testO_of {K : Kf} {m : MO} {t : TE} (h : ∀ σ H Q, tO K m σ H Q → t σ H Q) {σ : L2.St} {H : Hp} {Q : Bool → Hp → Prop} (w : tT K (mTestO m) σ H Q) : t σ H fun x H' => ∃ k, x = .bl k ∧ Q k H' := by
  obtain ⟨G, F, ρ, I, c, ρ', e, k⟩ := w
  obtain ⟨⟨o, ρ1⟩, e1, e⟩ := Option.bind_eq_some_iff.mp e
  refine h _ _ _ ⟨G, F, ρ, I, o, ρ1, e1, fun F1 H1 l1 I1 => ?_⟩
  cases o with
  | val d =>
    cases d with
    | bl b => cases e; exact fun v r => by cases r; exact ⟨_, rfl, k F1 H1 l1 I1⟩
    | _ => cases e
  | _ => cases e
theorem dt_notin (hu : X.A.units + 65 < cLine) (ha : DE X a ma) (hb : DE X b mb) (hm : behindInMarks .NotIn b = false := by rfl) : DT X (.Compare a [.NotIn] [b] pos) (mTestO (mOp dNotIn ma mb)) :=
  ptImp (ptOr (pt_cmpR (op_notInAll hu) ha hb hm) (pt_cmp (pc_dnotin (by omega) ha hb) hm)) fun σ H Q w => testO_of (m := mOp dNotIn ma mb) (t := fun σ H Q => (tOp (rInAll X.K true) (tE X.K ma) (tE X.K mb) σ H Q) ∨ tDNotIn (tE X.K ma) (tE X.K mb) σ H Q) (fun σ H Q w => in_of (neg := true) w) w
end
/-! ### subscripts -/
theorem RA.atI {K : Kf} {F : Hp} {vs : List V} {ds : List D} {i : Int} {d : D} (r : RA K F vs ds) (h : L2.atI ds i = some d) : ∃ v, L2.atI vs i = some v ∧ R K F v d := by
  unfold L2.atI at h ⊢
  rw [r.length]
  obtain ⟨j, e1, e2⟩ := Option.bind_eq_some_iff.mp h
  obtain ⟨v, h1, h2⟩ := r.get e2
  exact ⟨v, by rw [e1]; exact h1, h2⟩
def dIx (d e : D) : Option O1 := match d, e with
  | .str z, .int i => if z.length ≤ cap then (L2.atI z.cps.toList i).bind fun c => some (.val (.str ⟨#[c]⟩)) else none
  | .dic kv, k => (dicGet (.dic kv) k).bind fun o => o.bind fun v => some (.val v)
  | .dit kv, k => (dicGet (.dit kv) k).bind fun o => o.bind fun v => some (.val v)
  | d, .int i => (seqD d).bind fun ds => (L2.atI ds i).bind fun x => some (.val x)
  | _, _ => none
theorem seqIx_ok {K : Kf} {F H : Hp} {x : V} {d : D} {i : Int} {o : O1} {Q : VK} (a : R1 K F H x d) (eo : ((seqD d).bind fun ds => (L2.atI ds i).bind fun x => some (O1.val x)) = some o) (k : O1Ok K F H Q o) : rIx K x (.int i) H Q := by
  obtain ⟨ds, e1, eo⟩ := Option.bind_eq_some_iff.mp eo
  obtain ⟨z, e2, eo⟩ := Option.bind_eq_some_iff.mp eo
  cases eo
  obtain ⟨p, vs, rfl, hs, rs⟩ := a.seq e1
  obtain ⟨v, h1, h2⟩ := rs.atI e2
  rcases hs with hs | hs
  · exact .inl ⟨p, vs, i, v, rfl, rfl, hs, h1, k v h2⟩
  · exact .inr (.inl ⟨p, vs, i, v, rfl, rfl, hs, h1, k v h2⟩)
section
variable {X : Cx} {a b : Expr} {ma mb : ME} {pos : Pos}
theorem ix_of {K : Kf} {σ : L2.St} {H : Hp} {Q : VK} (w : tO K (mOp dIx ma mb) σ H Q) : tOp (rIx K) (tE K ma) (tE K mb) σ H Q ∨ tDGet (tE K ma) (tE K mb) σ H Q := by
  obtain ⟨G, F, ρ, I, o, ρ', e, k⟩ := w
  obtain ⟨⟨r1, ρ1⟩, e1, e⟩ := Option.bind_eq_some_iff.mp e
  obtain ⟨⟨r2, ρ2⟩, e2, e⟩ := Option.bind_eq_some_iff.mp e
  obtain ⟨d1, e3, e⟩ := Option.bind_eq_some_iff.mp e
  obtain ⟨d2, e4, e⟩ := Option.bind_eq_some_iff.mp e
  obtain ⟨o', e5, e⟩ := Option.bind_eq_some_iff.mp e
  cases e
  by_cases hd : (∃ kv, d1 = .dic kv) ∨ ∃ kv, d1 = .dit kv
  · refine .inr ⟨G, F, ρ, I, r1, ρ1, e1, fun F1 H1 v1 l1 I1 k1 => ⟨G, F1, ρ1, I1, r2, _, e2, fun F2 H2 v2 l2 I2 k2 => ?_⟩⟩
    have g : ∃ r, dicGet d1 d2 = some r ∧ ∃ v, r = some v ∧ o = .val v := by
      rcases hd with ⟨kv, rfl⟩ | ⟨kv, rfl⟩
      · have e5 : ((dicGet (.dic kv) d2).bind fun o => o.bind fun v => some (O1.val v)) = some o := by cases d2 <;> exact e5
        obtain ⟨r, h1, h2⟩ := Option.bind_eq_some_iff.mp e5
        obtain ⟨v, h3, h4⟩ := Option.bind_eq_some_iff.mp h2
        cases h4
        exact ⟨r, h1, v, h3, rfl⟩
      · have e5 : ((dicGet (.dit kv) d2).bind fun o => o.bind fun v => some (O1.val v)) = some o := by cases d2 <;> exact e5
        obtain ⟨r, h1, h2⟩ := Option.bind_eq_some_iff.mp e5
        obtain ⟨v, h3, h4⟩ := Option.bind_eq_some_iff.mp h2
        cases h4
        exact ⟨r, h1, v, h3, rfl⟩
    obtain ⟨r, h1, v, h2, rfl⟩ := g
    obtain ⟨p, ov, rfl, dg, _, g1, _⟩ := dicGet_ok (I2.vw (k1.mono l2) e3) (I2.vw k2 e4) h1
    obtain ⟨w, rfl, rw'⟩ := g1 v h2
    exact ⟨p, w, rfl, dg, k F2 H2 (l1.trans l2) I2 _ rw'⟩
  · refine .inl ⟨G, F, ρ, I, r1, ρ1, e1, fun F1 H1 v1 l1 I1 k1 => ⟨G, F1, ρ1, I1, r2, _, e2, fun F2 H2 v2 l2 I2 k2 => ?_⟩⟩
    have a := I2.vw (k1.mono l2) e3
    have b := I2.vw k2 e4
    have kk := k F2 H2 (l1.trans l2) I2
    have gen : ∀ d : D, d1 = d → (∀ z, d ≠ .str z) → (∀ kv, d ≠ .dic kv) → (∀ kv, d ≠ .dit kv) → rIx K v1 v2 H2 Q := fun d ed n1 n2 n3 => by
      cases d2 with
      | int i =>
        rw [show v2 = .int i from b]
        refine seqIx_ok a ?_ kk
        cases d1 <;> first | exact e5 | exact absurd ed.symm (n1 _) | exact absurd ed.symm (n2 _) | exact absurd ed.symm (n3 _)
      | _ => cases d1 <;> first | (cases e5; done) | exact absurd ed.symm (n1 _) | exact absurd ed.symm (n2 _) | exact absurd ed.symm (n3 _)
    cases d1 with
    | str z =>
      cases d2 with
      | int i =>
        have eo : (if z.length ≤ cap then (L2.atI z.cps.toList i).bind fun c => some (O1.val (.str ⟨#[c]⟩)) else none) = some o := e5
        split at eo
        · rename_i hz
          obtain ⟨c, e1, eo⟩ := Option.bind_eq_some_iff.mp eo
          cases eo
          exact .inr (.inr ⟨z, i, c, a, b, cap_le hz, e1, kk _ (.str _)⟩)
        · cases eo
      | _ => cases e5
    | dic kv => exact absurd (.inl ⟨_, rfl⟩) hd
    | dit kv => exact absurd (.inr ⟨_, rfl⟩) hd
    | _ => exact gen _ rfl (fun _ z => nomatch z) (fun _ z => nomatch z) (fun _ z => nomatch z)
theorem do_ix (hu : X.A.units + 1 < cLine) (ha : DE X a ma) (hb : DE X b mb) (hs : PlainIx b := by exact fun _ _ => rfl) : DO X (.Subscript a b pos) (mOp dIx ma mb) :=
  peImp (peOr (pe_ix ix_seq ha hb hs) (pe_dget hu ha hb hs)) fun σ H Q => ix_of
end
end DL

set_option Elab.async false
set_option linter.all false
set_option maxRecDepth 100000
set_option maxHeartbeats 4000000
namespace DL
open PySem PySem.Spec PyProof.Rows L2

/-! ### slices -/
abbrev MP := En → Option (Option Int × En)
def tP (K : Kf) (m : MP) : TO := fun σ H Q => ∃ G F ρ, Rel K G F H σ ρ ∧ ∃ i ρ', m ρ = some (i, ρ') ∧ ∀ F' H', Le F F' → Rel K G F' H' σ ρ' → Q i H'
abbrev DP (X : Cx) (e : Option Expr) (m : MP) : Prop := PO X e (tP X.K m)
def mNoP : MP := fun ρ => some (none, ρ)
def mP (m : ME) : MP := fun ρ => (m ρ).bind fun p => match p.1 with
  | .fz (.int i) => some (some i, p.2)
  | _ => none
theorem poImp {X : Cx} {e : Option Expr} {t t' : TO} (h : PO X e t) (i : ∀ σ H Q, t' σ H Q → t σ H Q) : PO X e t' := ⟨fun pins s σ H Q I hw => h.run pins s σ H Q I (i _ _ _ hw)⟩
def cutD {α : Type} (xs : List α) (lo hi : Option Int) : List α := (xs.drop (HT.sIx xs.length 0 lo)).take (HT.sIx xs.length xs.length hi - HT.sIx xs.length 0 lo)
theorem RA.cut {K : Kf} {F : Hp} {vs : List V} {ds : List D} (r : RA K F vs ds) (lo hi : Option Int) : RA K F (cutV vs lo hi) (cutD ds lo hi) := by
  unfold cutV cutD
  rw [r.length]
  exact (r.drop _).take _
def dSl (d : D) (lo hi : Option Int) : Option O1 := match d with
  | .lst ds => some (.newL (cutD ds lo hi))
  | .scr ns => some (.newL (cutD (ns.map D.int) lo hi))
  | .tup ds => some (if HT.sIx ds.length 0 lo = 0 ∧ HT.sIx ds.length ds.length hi = ds.length then .val (.tup ds) else .newT (cutD ds lo hi))
  | .tpl ds => some (if HT.sIx ds.length 0 lo = 0 ∧ HT.sIx ds.length ds.length hi = ds.length then .val (.tpl ds) else .newT (cutD ds lo hi))
  | .str z => if z.length ≤ cap then some (.val (.str (cutS z lo hi))) else none
  | _ => none
def mSl (m : ME) (lo hi : MP) : MO := fun ρ => (m ρ).bind fun p => (lo p.2).bind fun a => (hi a.2).bind fun b => (vw b.2 p.1).bind fun d => (dSl d a.1 b.1).bind fun o => some (o, b.2)
def rSlAll (K : Kf) : V → Option Int → Option Int → Hp → VK → Prop := fun x lo hi H Q => rSlL K x lo hi H Q ∨ (rSlA K x lo hi H Q ∨ rSlS x lo hi H Q)
theorem dSl_ok {K : Kf} {F H : Hp} {x : V} {d : D} {lo hi : Option Int} {o : O1} {Q : VK} (a : R1 K F H x d) (eo : dSl d lo hi = some o) (k : O1Ok K F H Q o) : rSlAll K x lo hi H Q := by
  cases d with
  | lst ds =>
    cases eo
    obtain ⟨p, vs, rfl, h1, r⟩ := a
    exact .inl ⟨p, vs, rfl, .of h1, fun q hq => k q _ hq (r.cut lo hi)⟩
  | scr ns =>
    cases eo
    obtain ⟨p, rfl, h1⟩ := a
    exact .inl ⟨p, _, rfl, h1, fun q hq => k q _ hq ((RA.of_ints ns).cut lo hi)⟩
  | tup ds =>
    have eo := Option.some.inj eo
    obtain ⟨p, vs, rfl, h1, r, f1⟩ := a
    have l := r.length
    refine .inr (.inl ⟨p, vs, rfl, .of h1, fun z => ?_, fun z q hq => ?_⟩)
    · rw [l] at z
      rw [if_pos z] at eo
      subst eo
      exact k _ (.tup f1 r)
    · rw [l] at z
      rw [if_neg z] at eo
      subst eo
      exact k q _ hq (r.cut lo hi)
  | tpl ds =>
    have eo := Option.some.inj eo
    obtain ⟨p, ob, vs, rfl, h1, n, r, f1⟩ := a
    have l := r.length
    refine .inr (.inl ⟨p, vs, rfl, .inl (.inr ⟨_, h1⟩), fun z => ?_, fun z q hq => ?_⟩)
    · rw [l] at z
      rw [if_pos z] at eo
      subst eo
      exact k _ (.tpl f1 n r)
    · rw [l] at z
      rw [if_neg z] at eo
      subst eo
      exact k q _ hq (r.cut lo hi)
  | str z =>
    unfold dSl at eo
    dsimp only at eo
    split at eo
    · rename_i hz; cases eo; exact .inr (.inr ⟨z, a, cap_le hz, k _ (.str _)⟩)
    · cases eo
  | _ => cases eo
section
variable {X : Cx} {a b : Expr} {ma mb : ME} {pos : Pos}
theorem dp_none : DP X none mNoP := poImp po_none fun σ H Q ⟨G, F, ρ, I, i, ρ', e, k⟩ => by cases e; exact k F H (Same.refl _) I
theorem dp_some {e : Expr} {m : ME} (h : DE X e m) : DP X (some e) (mP m) := poImp (po_some h) fun σ H Q ⟨G, F, ρ, I, i, ρ', e, k⟩ => by
  obtain ⟨⟨r1, ρ1⟩, e1, e⟩ := Option.bind_eq_some_iff.mp e
  refine ⟨G, F, ρ, I, r1, ρ1, e1, fun F1 H1 v l1 I1 k1 => ?_⟩
  cases r1 with
  | sl j => cases e
  | fz d =>
    cases d with
    | int j => cases e; cases k1; exact ⟨_, rfl, k F1 H1 l1 I1⟩
    | _ => cases e
theorem do_slice {e : Expr} {lo hi : Option Expr} {m : ME} {ml mh : MP} {p2 : Pos} (he : DE X e m) (hl : DP X lo ml) (hh : DP X hi mh) : DO X (.Subscript e (.Slice lo hi none p2) pos) (mSl m ml mh) :=
  peImp (pe_slice (sl_list.or (sl_tupA.or sl_str)) he hl hh) fun σ H Q ⟨G, F, ρ, I, o, ρ', e, k⟩ => by
    obtain ⟨⟨r1, ρ1⟩, e1, e⟩ := Option.bind_eq_some_iff.mp e
    obtain ⟨⟨i, ρ2⟩, e2, e⟩ := Option.bind_eq_some_iff.mp e
    obtain ⟨⟨j, ρ3⟩, e3, e⟩ := Option.bind_eq_some_iff.mp e
    obtain ⟨d, e4, e⟩ := Option.bind_eq_some_iff.mp e
    obtain ⟨o', e5, e⟩ := Option.bind_eq_some_iff.mp e
    cases e
    exact ⟨G, F, ρ, I, r1, ρ1, e1, fun F1 H1 v l1 I1 k1 => ⟨G, F1, ρ1, I1, i, ρ2, e2, fun F2 H2 l2 I2 => ⟨G, F2, ρ2, I2, j, _, e3, fun F3 H3 l3 I3 =>
      dSl_ok (I3.vw ((k1.mono l2).mono l3) e4) e5 (k F3 H3 ((l1.trans l2).trans l3) I3)⟩⟩⟩
def dRev : D → Option O1
  | .lst ds => some (.newL ds.reverse)
  | .scr ns => some (.newL (ns.map D.int).reverse)
  | _ => none
theorem do_rev {e : Expr} {m : ME} {k : Nat} {p1 p2 p3 : Pos} (he : DE X e m) : DO X (.Subscript e (.Slice none none (some (.UnaryOp .USub (.Constant (.int 1) k p1) p2)) p3) pos) (mUn dRev m) :=
  peImp (pe_revL he) fun σ H Q w => by
    refine tUn_of (r := fun x H1 Q => ∃ a xs, x = .ref a ∧ SqL X.K H1 a xs ∧ ∀ p, H1 p = none → Q (.ref p) (upd H1 p (.lst xs.reverse))) (fun F H x d o Q s a eo k => ?_) w
    cases d with
    | lst ds => cases eo; obtain ⟨p, vs, rfl, h1, r⟩ := a; exact ⟨p, vs, rfl, .of h1, fun q hq => k q _ hq r.reverse⟩
    | scr ns => cases eo; obtain ⟨p, rfl, h1⟩ := a; exact ⟨p, _, rfl, h1, fun q hq => k q _ hq (RA.of_ints ns).reverse⟩
    | _ => cases eo
/-! ### displays -/
def mTup (m : MA) : MO := fun ρ => (m ρ).bind fun p => (frs p.1 p.2).bind fun q => if q.1.length ≤ cap then some (.newT q.1, q.2) else none
def mLst (m : MA) : MO := fun ρ => (m ρ).bind fun p => (frs p.1 p.2).bind fun q => if q.1.length ≤ cap then some (.newL q.1, q.2) else none
theorem do_tup {es : List Expr} {m : MA} {x1} (h : DA X es m) : DO X (.Tuple es x1 pos) (mTup m) := peImp (pe_tup h) fun σ H Q ⟨G, F, ρ, I, o, ρ', e, k⟩ => by
  obtain ⟨⟨rs, ρ1⟩, e1, e⟩ := Option.bind_eq_some_iff.mp e
  obtain ⟨⟨ds, ρ2⟩, e2, e⟩ := Option.bind_eq_some_iff.mp e
  dsimp only at e
  split at e
  · rename_i hc
    cases e
    refine ⟨G, F, ρ, I, rs, ρ1, e1, fun F1 H1 vs l1 I1 k1 => ?_⟩
    obtain ⟨F2, l2, I2, r2⟩ := I1.frs k1 e2
    exact ⟨by rw [r2.length]; exact cap_le hc, fun p hp => k F2 H1 (l1.trans l2) I2 p _ hp r2⟩
  · cases e
theorem do_lst {es : List Expr} {m : MA} (h : DA X es m) : DO X (.List es pos) (mLst m) := peImp (pe_lst h) fun σ H Q ⟨G, F, ρ, I, o, ρ', e, k⟩ => by
  obtain ⟨⟨rs, ρ1⟩, e1, e⟩ := Option.bind_eq_some_iff.mp e
  obtain ⟨⟨ds, ρ2⟩, e2, e⟩ := Option.bind_eq_some_iff.mp e
  dsimp only at e
  split at e
  · rename_i hc
    cases e
    refine ⟨G, F, ρ, I, rs, ρ1, e1, fun F1 H1 vs l1 I1 k1 => ?_⟩
    obtain ⟨F2, l2, I2, r2⟩ := I1.frs k1 e2
    exact ⟨by rw [r2.length]; exact cap_le hc, fun p hp => k F2 H1 (l1.trans l2) I2 p _ hp r2⟩
  · cases e
def mDicK : MO := fun ρ => some (.newK [], ρ)
def mDicT : MO := fun ρ => some (.newI [], ρ)
theorem do_dicK : DO X (.Dict [] [] pos) mDicK := peImp pe_dnewK fun σ H Q ⟨G, F, ρ, I, o, ρ', e, k⟩ => by
  cases e
  exact fun p hp => k F H (Same.refl _) I p [] hp .nil
/-- a if t else b -/
def mIfE (c : MT) (a b : ME) : ME := fun ρ => (c ρ).bind fun p => if p.1 = true then a p.2 else b p.2
end
/-! ### built-in calls -/
theorem R1s.one {K : Kf} {F H : Hp} {xs : List V} {d : D} (h : R1s K F H xs [d]) : ∃ x, xs = [x] ∧ R1 K F H x d := by
  cases h with
  | cons a t => cases t; exact ⟨_, rfl, a⟩
theorem R1s.two {K : Kf} {F H : Hp} {xs : List V} {d e : D} (h : R1s K F H xs [d, e]) : ∃ x y, xs = [x, y] ∧ R1 K F H x d ∧ R1 K F H y e := by
  cases h with
  | cons a t =>
    cases t with
    | cons b t => cases t; exact ⟨_, _, rfl, a, b⟩
def f1 (f : D → Option O1) : List D → Option O1
  | [d] => f d
  | _ => none
def f2 (f : D → D → Option O1) : List D → Option O1
  | [d, e] => f d e
  | _ => none
theorem call1 {K : Kf} {r : List V → Hp → VK → Prop} {f : D → Option O1} (h : ∀ F H x d o Q, Sub F H → R1 K F H x d → f d = some o → O1Ok K F H Q o → r [x] H Q) : CallD K r (f1 f) := fun F H xs ds o Q s a eo k => by
  match ds, a, eo with
  | [d], a, eo => obtain ⟨x, rfl, a'⟩ := a.one; exact h F H x d o Q s a' eo k
theorem call2 {K : Kf} {r : List V → Hp → VK → Prop} {f : D → D → Option O1} (h : ∀ F H x y d e o Q, Sub F H → R1 K F H x d → R1 K F H y e → f d e = some o → O1Ok K F H Q o → r [x, y] H Q) : CallD K r (f2 f) := fun F H xs ds o Q s a eo k => by
  match ds, a, eo with
  | [d, e], a, eo => obtain ⟨x, y, rfl, a', b'⟩ := a.two; exact h F H x y d e o Q s a' b' eo k
section
variable {X : Cx} {x : Str} {p pos : Pos} {e : Expr} {es : List Expr} {ma : MA} {id T : String}
theorem do_callB {r : List V → Hp → VK → Prop} {f : List D → Option O1} (hc : CallR X (.builtin id) r) (hd : CallD X.K r f) (hg : Gl X x) (hm : X.mg x = none) (hv : bootBuiltins x = some (.builtin id)) (ha : DA X (e :: es) ma) (hn : x ≠ "__name__" := by decide) (hdb : (x == ("__debug__" : Str)) = false := by decide)
    (he : starEach (e :: es) X.env = (false, eval e X.env) :: starEach es X.env := by rfl) (hpl : (backTo pos (starEach es X.env)).any (·.1) = false := by rfl) : DO X (.Call (.Name x p) (e :: es) [] pos) (mCB f ma) :=
  peImp (pe_callB hc hg hm hv ha hn hdb he hpl) fun σ H Q => tCB_of hd
theorem do_callTy {r : List V → Hp → VK → Prop} {f : List D → Option O1} (hc : CallR X (.type T) r) (hd : CallD X.K r f) (hg : Gl X x) (hm : X.mg x = none) (hv : bootBuiltins x = some (.type T)) (ha : DA X (e :: es) ma) (hn : x ≠ "__name__" := by decide) (hdb : (x == ("__debug__" : Str)) = false := by decide)
    (he : starEach (e :: es) X.env = (false, eval e X.env) :: starEach es X.env := by rfl) (hpl : (backTo pos (starEach es X.env)).any (·.1) = false := by rfl) : DO X (.Call (.Name x p) (e :: es) [] pos) (mCB f ma) :=
  peImp (pe_callTy hc hg hm hv ha hn hdb he hpl) fun σ H Q => tCB_of hd
end
/-- len -/
def dLen : D → Option O1
  | .str z => if z.length ≤ cap then some (.val (.int z.length)) else none
  | .dic kv => some (.val (.int kv.length))
  | .dit kv => some (.val (.int kv.length))
  | d => (seqD d).bind fun ds => some (.val (.int ds.length))
def rLenAll (K : Kf) : List V → Hp → VK → Prop := fun xs H Q => (∃ x n, xs = [x] ∧ LenV K x H n ∧ Q (.int n) H) ∨ ((∃ a kvs, xs = [.ref a] ∧ Rd H a (.dK kvs) ∧ Q (.int kvs.length) H) ∨ ∃ a kvs, xs = [.ref a] ∧ Rd H a (.dT kvs) ∧ Q (.int kvs.length) H)
theorem call_lenR {X : Cx} : CallR X (.builtin "len") (fun xs H Q => ∃ a kvs, xs = [.ref a] ∧ Rd H a (.dK kvs) ∧ Q (.int kvs.length) H) := fun pins s σ H xs us Q I r h => by
  obtain ⟨a, kvs, rfl, hd, q⟩ := h
  have := r.ref1
  subst this
  exact d_len I hd fun t s' I' => ⟨.int _, H, I', ⟨_, rfl⟩, q⟩
theorem call_lenRT {X : Cx} : CallR X (.builtin "len") (fun xs H Q => ∃ a kvs, xs = [.ref a] ∧ Rd H a (.dT kvs) ∧ Q (.int (kvs.length : Nat)) H) := fun pins s σ H xs us Q I r h => by
  obtain ⟨p, kvs, rfl, hp, q⟩ := h
  have := r.ref1
  subst this
  obtain ⟨z, hd, ys, rel, dd⟩ := dt_rd I.hok hp
  have hl : kvs.length = ys.length := Paired.length rel
  refine call_len_dictH hd dd (by rw [← hl]; rw [sizeLine_eq] at z; omega) ?_
  rw [← hl]
  exact ⟨.int _, H, I.tok _, ⟨_, rfl⟩, q⟩
theorem calld_len {K : Kf} : CallD K (rLenAll K) (f1 dLen) := call1 fun F H x d o Q s a eo k => by
  have sq : ∀ ds, seqD d = some ds → o = .val (.int ds.length) → rLenAll K [x] H Q := fun ds e1 e2 => by
    subst e2
    obtain ⟨p, vs, rfl, hs, r⟩ := a.seq e1
    refine .inl ⟨_, vs.length, rfl, ?_, ?_⟩
    · rcases hs with hs | hs
      · exact .inl ⟨vs, hs, rfl⟩
      · exact .inr ⟨vs, hs, rfl⟩
    · rw [r.length]; exact k _ (.int _)
  cases d with
  | str z =>
    unfold dLen at eo
    dsimp only at eo
    split at eo
    · rename_i hz; cases eo; rw [show x = .str z from a]; exact .inl ⟨_, z.length, rfl, ⟨cap_le hz, rfl⟩, k _ (.int _)⟩
    · cases eo
  | dic kv =>
    cases eo
    obtain ⟨p, kvs, rfl, rd, r⟩ := a
    refine .inr (.inl ⟨p, kvs, rfl, rd, ?_⟩)
    rw [r.length]; exact k _ (.int _)
  | dit kv =>
    cases eo
    obtain ⟨p, kvs, rfl, rd, r⟩ := a
    refine .inr (.inr ⟨p, kvs, rfl, rd, ?_⟩)
    rw [r.length]; exact k _ (.int _)
  | lst ds => cases eo; exact sq _ rfl rfl
  | tup ds => cases eo; exact sq _ rfl rfl
  | tpl ds => cases eo; exact sq _ rfl rfl
  | scr ns => cases eo; exact sq _ rfl rfl
  | _ => cases eo
section
variable {X : Cx} {p pos : Pos} {e e2 : Expr} {ma : MA}
theorem do_len (hg : Gl X "len") (hm : X.mg "len" = none) (ha : DA X [e] ma) (he : starEach [e] X.env = [(false, eval e X.env)] := by rfl) (hpl : (backTo pos (starEach [] X.env)).any (·.1) = false := by rfl) : DO X (.Call (.Name "len" p) [e] [] pos) (mCB (f1 dLen) ma) :=
  do_callB (call_len.or (call_lenR.or call_lenRT)) calld_len hg hm PySem.boot_len ha (by decide) (by decide) he hpl
/-- ints of a list -/
def intsL : List D → Option (List Int)
  | [] => some []
  | .int i :: ds => (intsL ds).bind fun ns => some (i :: ns)
  | _ => none
theorem intsL_eq : ∀ {ds : List D} {ns : List Int}, intsL ds = some ns → ds = ns.map D.int
  | [], ns, h => by cases h; rfl
  | .int i :: ds, ns, h => by
    unfold intsL at h
    obtain ⟨ms, e1, e⟩ := Option.bind_eq_some_iff.mp h
    cases e
    rw [List.map_cons, ← intsL_eq e1]
  | .non :: ds, ns, h => by cases h
  | .bl _ :: ds, ns, h => by cases h
  | .str _ :: ds, ns, h => by cases h
  | .tup _ :: ds, ns, h => by cases h
  | .tpl _ :: ds, ns, h => by cases h
  | .lst _ :: ds, ns, h => by cases h
  | .scr _ :: ds, ns, h => by cases h
  | .dic _ :: ds, ns, h => by cases h
  | .dit _ :: ds, ns, h => by cases h
theorem intsL_map : ∀ ns : List Int, intsL (ns.map D.int) = some ns
  | [] => rfl
  | n :: ns => by rw [List.map_cons]; unfold intsL; rw [intsL_map ns]; rfl
def intsOf : D → Option (List Int)
  | .lst ds => intsL ds
  | .scr ns => some ns
  | _ => none
theorem R1.ints {K : Kf} {F H : Hp} {x : V} {d : D} {ns : List Int} (a : R1 K F H x d) (h : intsOf d = some ns) : ∃ p, x = .ref p ∧ SqL K H p (ns.map V.int) := by
  cases d with
  | lst ds =>
    obtain ⟨p, vs, rfl, h1, r⟩ := a
    have := intsL_eq h
    subst this
    rw [r.ints] at h1
    exact ⟨p, rfl, .of h1⟩
  | scr ms => cases h; exact a
  | _ => cases h
def dSum (d : D) : Option O1 := (intsOf d).bind fun ns => some (.val (.int ns.sum))
def dMax2 : D → D → Option O1
  | .int i, .int j => some (.val (.int (if j > i then j else i)))
  | _, _ => none
def dMin2 : D → D → Option O1
  | .int i, .int j => some (.val (.int (if j < i then j else i)))
  | _, _ => none
theorem do_max2 (hc : X.calm = true) (hg : Gl X "max") (hm : X.mg "max" = none) (ha : DA X [e, e2] ma) (hb : bootBuiltins "max" = some (.builtin "max") := by decide +kernel) (he : starEach [e, e2] X.env = (false, eval e X.env) :: starEach [e2] X.env := by rfl) (hpl : (backTo pos (starEach [e2] X.env)).any (·.1) = false := by rfl) : DO X (.Call (.Name "max" p) [e, e2] [] pos) (mCB (f2 dMax2) ma) :=
  do_callB (call_max2 hc) (call2 fun F H x y d e o Q s a b eo k => by
    cases d with
    | int i =>
      cases e with
      | int j => cases eo; exact ⟨i, j, by rw [show x = .int i from a, show y = .int j from b], k _ (.int _)⟩
      | _ => cases eo
    | _ => cases eo) hg hm hb ha (by decide) (by decide) he hpl
theorem do_min2 (hc : X.calm = true) (hg : Gl X "min") (hm : X.mg "min" = none) (ha : DA X [e, e2] ma) (hb : bootBuiltins "min" = some (.builtin "min") := by decide +kernel) (he : starEach [e, e2] X.env = (false, eval e X.env) :: starEach [e2] X.env := by rfl) (hpl : (backTo pos (starEach [e2] X.env)).any (·.1) = false := by rfl) : DO X (.Call (.Name "min" p) [e, e2] [] pos) (mCB (f2 dMin2) ma) :=
  do_callB (call_min2 hc) (call2 fun F H x y d e o Q s a b eo k => by
    cases d with
    | int i =>
      cases e with
      | int j => cases eo; exact ⟨i, j, by rw [show x = .int i from a, show y = .int j from b], k _ (.int _)⟩
      | _ => cases eo
    | _ => cases eo) hg hm hb ha (by decide) (by decide) he hpl
def dAbs : D → Option O1
  | .int i => some (.val (.int (if i < 0 then -i else i)))
  | _ => none
def dInt : D → Option O1
  | .int i => some (.val (.int i))
  | .bl b => some (.val (.int (if b then 1 else 0)))
  | .str x => if x.length ≤ 640 then (PySem.intText? x).bind fun n => some (.val (.int n)) else none
  | _ => none
theorem do_int (hg : Gl X "int") (hm : X.mg "int" = none) (ha : DA X [e] ma) (hb : bootBuiltins "int" = some (.type "int") := by decide +kernel) (he : starEach [e] X.env = [(false, eval e X.env)] := by rfl) (hpl : (backTo pos (starEach [] X.env)).any (·.1) = false := by rfl) : DO X (.Call (.Name "int" p) [e] [] pos) (mCB (f1 dInt) ma) :=
  do_callTy (call_int1.or call_int_str) (call1 fun F H x d o Q s a eo k => by
    cases d with
    | int i => cases eo; exact .inl (.inl ⟨i, by rw [show x = .int i from a], k _ (.int _)⟩)
    | bl b => cases eo; exact .inl (.inr ⟨b, by rw [show x = .bl b from a], k _ (.int _)⟩)
    | str z =>
      unfold dInt at eo
      dsimp only at eo
      split at eo
      · rename_i hz
        obtain ⟨n, e1, eo⟩ := Option.bind_eq_some_iff.mp eo
        cases eo
        exact .inr ⟨z, n, by rw [show x = .str z from a], e1, hz, k _ (.int _)⟩
      · cases eo
    | _ => cases eo) hg hm hb ha (by decide) (by decide) he hpl
def dStr : D → Option O1
  | .int i => if i.natAbs.log2 < 1920 then some (.val (.str (toString i))) else none
  | _ => none
/-- list(..) of a sequence, of a dict's keys -/
def dList (d : D) : Option O1 := match d with
  | .dic kv => some (.newL (kv.map (·.1)))
  | d => (seqD d).bind fun ds => some (.newL ds)
theorem RK.keys {K : Kf} {F : Hp} : ∀ {vs : List (Key × V)} {ds : List (D × D)}, RK K F vs ds → RA K F (vs.map fun kv => kV kv.1) (ds.map (·.1))
  | _, _, .nil => .nil
  | _, _, .cons r t => .cons (R.of_key _) (RK.keys t)
theorem do_list (hc : X.calm = true) (hg : Gl X "list") (hm : X.mg "list" = none) (ha : DA X [e] ma) (hb : bootBuiltins "list" = some (.type "list") := by decide +kernel) (he : starEach [e] X.env = [(false, eval e X.env)] := by rfl) (hpl : (backTo pos (starEach [] X.env)).any (·.1) = false := by rfl) : DO X (.Call (.Name "list" p) [e] [] pos) (mCB (f1 dList) ma) :=
  do_callTy (call_list_of.or (call_listD hc)) (call1 fun F H x d o Q s a eo k => by
    have sq : ∀ ds, seqD d = some ds → o = .newL ds → (∃ p ys, [x] = [.ref p] ∧ (SqL X.K H p ys ∨ SqT X.K H p ys) ∧ ∀ l, H l = none → Q (.ref l) (upd H l (.lst ys))) := fun ds e1 e2 => by
      subst e2
      obtain ⟨q, vs, rfl, hs, r⟩ := a.seq e1
      exact ⟨q, vs, rfl, hs, fun l hl => k l vs hl r⟩
    cases d with
    | dic kv => cases eo; obtain ⟨q, kvs, rfl, rd, r⟩ := a; exact .inr ⟨q, kvs, rfl, rd, fun l hl => k l _ hl r.keys⟩
    | lst ds => cases eo; exact .inl (sq _ rfl rfl)
    | tup ds => cases eo; exact .inl (sq _ rfl rfl)
    | tpl ds => cases eo; exact .inl (sq _ rfl rfl)
    | scr ds => cases eo; exact .inl (sq _ rfl rfl)
    | _ => cases eo) hg hm hb ha (by decide) (by decide) he hpl
def dTuple : D → Option O1
  | .lst ds => some (.newT ds)
  | .scr ns => some (.newT (ns.map D.int))
  | .tup ds => some (.val (.tup ds))
  | .tpl ds => some (.val (.tpl ds))
  | _ => none
theorem do_tuple (hg : Gl X "tuple") (hm : X.mg "tuple" = none) (ha : DA X [e] ma) (hb : bootBuiltins "tuple" = some (.type "tuple") := by decide +kernel) (he : starEach [e] X.env = [(false, eval e X.env)] := by rfl) (hpl : (backTo pos (starEach [] X.env)).any (·.1) = false := by rfl) : DO X (.Call (.Name "tuple" p) [e] [] pos) (mCB (f1 dTuple) ma) :=
  do_callTy call_tuple_of (call1 fun F H x d o Q s a eo k => by
    cases d with
    | lst ds => cases eo; obtain ⟨q, vs, rfl, h1, r⟩ := a; exact ⟨q, vs, rfl, .inl ⟨.of h1, fun l hl => k l vs hl r⟩⟩
    | scr ns => cases eo; obtain ⟨q, rfl, h1⟩ := a; exact ⟨q, _, rfl, .inl ⟨h1, fun l hl => k l _ hl (RA.of_ints ns)⟩⟩
    | tup ds => cases eo; obtain ⟨q, vs, rfl, h1, r, f1⟩ := a; exact ⟨q, vs, rfl, .inr ⟨.of h1, k _ (.tup f1 r)⟩⟩
    | tpl ds => cases eo; obtain ⟨q, ob, vs, rfl, h1, n, r, f1⟩ := a; exact ⟨q, vs, rfl, .inr ⟨.inl (.inr ⟨_, h1⟩), k _ (.tpl f1 n r)⟩⟩
    | _ => cases eo) hg hm hb ha (by decide) (by decide) he hpl
/-- sorted of ints -/
def insI (x : Int) : List Int → List Int
  | [] => [x]
  | y :: ys => if x ≤ y then x :: y :: ys else y :: insI x ys
def srtI : List Int → List Int
  | [] => []
  | x :: xs => insI x (srtI xs)
def dSorted (d : D) : Option O1 := (intsOf d).bind fun ns => some (.newL ((srtI ns).map D.int))
end
end DL

set_option Elab.async false
set_option linter.all false
set_option maxRecDepth 100000
set_option maxHeartbeats 4000000
namespace DL
open PySem PySem.Spec PyProof.Rows L2

/-! ### methods that change a list of one's own -/
def MutD (K : Kf) (r : V → List V → Hp → VK → Prop) (f : D → List D → Option (D × D)) : Prop := ∀ F H p d vs ds res d' Q, Sub F H → Ob K F H p d → RA K F vs ds → f d ds = some (res, d') →
  (∀ o v, isN d = false → isN d' = false → Ob K F (upd H p o) p d' → R K F v res → Q v (upd H p o)) → r (.ref p) vs H Q
def isLst : D → Bool
  | .lst _ => true
  | _ => false
def mMut (i : Nat) (f : D → List D → Option (D × D)) (ma : MA) : ME := fun ρ => match ρ[i]? with
  | some (some (.ow _ d0)) => if isLst d0 = true then (ma ρ).bind fun p => (frs p.1 p.2).bind fun q => match q.2[i]? with
      | some (some (.ow b d)) => (f d q.1).bind fun r => some (.fz r.1, q.2.set i (some (.ow b r.2)))
      | _ => none
    else none
  | _ => none
theorem mut_of {K : Kf} {r : V → List V → Hp → VK → Prop} {f : D → List D → Option (D × D)} (hd : MutD K r f) {i : Nat} {ma : MA} {σ : L2.St} {H : Hp} {Q : VK} (w : tE K (mMut i f ma) σ H Q) : tBM K "list" r (tVar i) (tA K ma) σ H Q := by
  obtain ⟨G, F, ρ, I, r0, ρ', e, k⟩ := w
  unfold mMut at e
  split at e
  case h_2 => cases e
  case h_1 b0 d0 hi0 =>
  split at e
  case isFalse => cases e
  case isTrue hl0 =>
  obtain ⟨⟨rs, ρ1⟩, e1, e⟩ := Option.bind_eq_some_iff.mp e
  obtain ⟨⟨ds, ρ2⟩, e2, e⟩ := Option.bind_eq_some_iff.mp e
  dsimp only at e
  split at e
  case h_2 => cases e
  case h_1 b d hi =>
  obtain ⟨⟨res, d'⟩, e3, e⟩ := Option.bind_eq_some_iff.mp e
  cases e
  obtain ⟨v, hv, p, rfl, f0, ob, _⟩ := I.slot _ _ hi0
  refine ⟨.ref p, hv, .inl ⟨rfl, ?_⟩, G, F, ρ, I, rs, ρ1, e1, fun F1 H1 vs l1 I1 k1 => ?_⟩
  · cases d0 with
    | lst xs => obtain ⟨vs, h1, _⟩ := ob; exact ⟨vs, .of h1⟩
    | _ => cases hl0
  · obtain ⟨F2, l2, I2, r2⟩ := I1.frs k1 e2
    obtain ⟨v2, hv2, p2, e4, f2, ob2, _⟩ := I2.slot _ _ hi
    rw [hv] at hv2
    cases hv2
    cases e4
    exact hd F2 H1 p d vs ds res d' Q I2.sub ob2 r2 e3 fun o v n1 n2 obn rv => k F2 (upd H1 p o) v (l1.trans l2) (I2.mut hi hv obn n1 n2) rv
section
variable {X : Cx} {x : Str} {p apos cpos : Pos} {e : Expr} {es : List Expr} {ma : MA} {name : Str} {id : String} {r : V → List V → Hp → VK → Prop} {f : D → List D → Option (D × D)}
theorem de_mut (i : Nat) (hd : MutD X.K r f) (slot : Slot "list" name id) (hty : typeOf (.builtin id) = pure (.type "method_descriptor")) (hm : MtR X id r) (ha : DA X (e :: es) ma)
    (hN : X.N[i]? = some x := by rfl) (hv : Vis X.env.scope x := by first | exact Or.inl rfl | exact Or.inr (Or.inl rfl) | exact Or.inr (Or.inr rfl)) (hdb : (x == ("__debug__" : Str)) = false := by decide) (hcd : (x == ("__classdict__" : Str)) = false := by decide)
    (hbase : attributeBase (.Name x p) name X.env (eval (.Name x p) X.env) = eval (.Name x p) X.env := by rfl)
    (hfew : ((backTo cpos (starEach (e :: es) X.env)).all (fun x => !x.1) && (backToKw cpos (keywordEach [] X.env)).all (fun x => x.1.isSome)
      && decide ((e :: es).length + ([] : List Keyword).length + (if ([] : List Keyword).isEmpty then 0 else 1) < 30)) = true := by rfl)
    (hline : (apos.endLine == cpos.line) = true := by rfl) (hs : starEach (e :: es) X.env = (false, eval e X.env) :: starEach es X.env := by rfl) (hplain : (backTo cpos (starEach es X.env)).any (·.1) = false := by rfl) :
    DE X (.Call (.Attribute (.Name x p) name apos) (e :: es) [] cpos) (mMut i f ma) :=
  peImp (pe_bm PySem.F.plainAttrs_list slot hty hm (pe_var hN hv hdb hcd) ha hbase hfew hline hs hplain) fun σ H Q => mut_of hd
def fAppend : D → List D → Option (D × D)
  | .lst xs, [y] => if xs.length < cap then some (.non, .lst (xs ++ [y])) else none
  | _, _ => none
theorem mutd_append {K : Kf} : MutD K rAppend fAppend := fun F H p d vs ds res d' Q s ob ra e k => by
  cases d with
  | lst xs =>
    match ds, ra, e with
    | [y], ra, e =>
      unfold fAppend at e
      dsimp only at e
      split at e
      · rename_i hc
        cases e
        obtain ⟨ws, h1, r1⟩ := ob
        cases ra with
        | cons ry t =>
          cases t
          exact ⟨p, ws, _, rfl, rfl, h1, by rw [r1.length]; exact cap_lt hc, k _ _ rfl rfl ⟨_, upd_same, r1.append (.cons ry .nil)⟩ .non⟩
      · cases e
  | _ => cases e
def fExtend : D → List D → Option (D × D)
  | .lst xs, [.lst ys] => if xs.length + ys.length ≤ cap then some (.non, .lst (xs ++ ys)) else none
  | _, _ => none
def fPopAt : D → List D → Option (D × D)
  | .lst xs, [.int i] => if -(2 ^ 63) ≤ i ∧ i < 2 ^ 63 then (ixN xs.length i).bind fun j => (xs[j]?).bind fun y => some (y, .lst (xs.eraseIdx j)) else none
  | _, _ => none
theorem mutd_popAt {K : Kf} : MutD K rPopAt fPopAt := fun F H p d vs ds res d' Q s ob ra e k => by
  cases d with
  | lst xs =>
    match ds, ra, e with
    | [.int i], ra, e =>
      unfold fPopAt at e
      dsimp only at e
      split at e
      · rename_i hc
        obtain ⟨j, e1, e⟩ := Option.bind_eq_some_iff.mp e
        obtain ⟨y, e2, e⟩ := Option.bind_eq_some_iff.mp e
        cases e
        obtain ⟨ws, h1, r1⟩ := ob
        cases ra with
        | cons ry t =>
          cases t
          cases ry
          obtain ⟨v, hv, rv⟩ := r1.get e2
          exact ⟨p, ws, i, j, v, rfl, rfl, h1, hc.1, hc.2, by rw [r1.length]; exact (ixN_seq e1).1, hv, k _ _ rfl rfl ⟨_, upd_same, r1.erase j⟩ rv⟩
      · cases e
  | _ => cases e
theorem de_append (i : Nat) (ha : DA X [e] ma)
    (hN : X.N[i]? = some x := by rfl) (hv : Vis X.env.scope x := by first | exact Or.inl rfl | exact Or.inr (Or.inl rfl) | exact Or.inr (Or.inr rfl)) (hdb : (x == ("__debug__" : Str)) = false := by decide) (hcd : (x == ("__classdict__" : Str)) = false := by decide)
    (hbase : attributeBase (.Name x p) "append" X.env (eval (.Name x p) X.env) = eval (.Name x p) X.env := by rfl)
    (hfew : ((backTo cpos (starEach [e] X.env)).all (fun x => !x.1) && (backToKw cpos (keywordEach [] X.env)).all (fun x => x.1.isSome)
      && decide (([e] : List Expr).length + ([] : List Keyword).length + (if ([] : List Keyword).isEmpty then 0 else 1) < 30)) = true := by rfl)
    (hline : (apos.endLine == cpos.line) = true := by rfl) (hs : starEach [e] X.env = (false, eval e X.env) :: starEach [] X.env := by rfl) :
    DE X (.Call (.Attribute (.Name x p) "append" apos) [e] [] cpos) (mMut i fAppend ma) := de_mut i mutd_append PySem.F.slot_list_append PySem.F.type_list_append mt_append ha hN hv hdb hcd hbase hfew hline hs rfl
theorem de_popAt (i : Nat) (ha : DA X [e] ma)
    (hN : X.N[i]? = some x := by rfl) (hv : Vis X.env.scope x := by first | exact Or.inl rfl | exact Or.inr (Or.inl rfl) | exact Or.inr (Or.inr rfl)) (hdb : (x == ("__debug__" : Str)) = false := by decide) (hcd : (x == ("__classdict__" : Str)) = false := by decide)
    (hbase : attributeBase (.Name x p) "pop" X.env (eval (.Name x p) X.env) = eval (.Name x p) X.env := by rfl)
    (hfew : ((backTo cpos (starEach [e] X.env)).all (fun x => !x.1) && (backToKw cpos (keywordEach [] X.env)).all (fun x => x.1.isSome)
      && decide (([e] : List Expr).length + ([] : List Keyword).length + (if ([] : List Keyword).isEmpty then 0 else 1) < 30)) = true := by rfl)
    (hline : (apos.endLine == cpos.line) = true := by rfl) (hs : starEach [e] X.env = (false, eval e X.env) :: starEach [] X.env := by rfl) :
    DE X (.Call (.Attribute (.Name x p) "pop" apos) [e] [] cpos) (mMut i fPopAt ma) := de_mut i mutd_popAt PySem.F.slot_list_pop PySem.F.type_list_pop mt_popAt ha hN hv hdb hcd hbase hfew hline hs rfl
end
/-- xs.pop() -/
def fPop : D → Option (D × D)
  | .lst xs => (xs[xs.length - 1]?).bind fun y => some (y, .lst xs.dropLast)
  | _ => none
def mPop (i : Nat) : ME := fun ρ => match ρ[i]? with
  | some (some (.ow b d)) => (fPop d).bind fun r => some (.fz r.1, ρ.set i (some (.ow b r.2)))
  | _ => none
/-! ### stores -/
def dStore (d k v : D) : Option D := match d with
  | .lst xs => match k with
    | .int i => (ixN xs.length i).bind fun j => some (.lst (xs.set j v))
    | _ => none
  | .dic kv => (keyOf k).bind fun q => if kv.length < cap then some (.dic (kPut keyOf kv k q v)) else none
  | .dit kv => (keysOf k).bind fun q => if kv.length < cap then some (.dit (kPut keysOf kv k q v)) else none
  | _ => none
def isOw (ρ : En) (i : Nat) : Bool := match ρ[i]? with
  | some (some (.ow _ _)) => true
  | _ => false
theorem Rel.isOw {K : Kf} {G : Gh} {F H : Hp} {σ : L2.St} {ρ : En} {i : Nat} (I : Rel K G F H σ ρ) (h : isOw ρ i = true) : ∃ p, σ[i]? = some (some (V.ref p)) := by
  unfold DL.isOw at h
  split at h
  · rename_i b d hi
    obtain ⟨v, hv, q, rfl, _⟩ := I.slot _ _ hi
    exact ⟨q, hv⟩
  · cases h
def mStore (i : Nat) (me mk : ME) : MS := fun ρ => (me ρ).bind fun p => (frR p.1 p.2).bind fun q => if isOw q.2 i = true then (mk q.2).bind fun a => (vw a.2 a.1).bind fun kd => match a.2[i]? with
  | some (some (.ow b d)) => (dStore d kd q.1).bind fun d' => some (.nx (a.2.set i (some (.ow b d'))))
  | _ => none
  else none
theorem store_of {X : Cx} {i : Nat} {me mk : ME} {T : Ends} {σ : L2.St} {H : Hp} (w : tS X (mStore i me mk) T σ H) : tAsg (tE X.K me) (gSub (tVar i) (tE X.K mk) rSetL) T σ H ∨ sDPut (tVar i) (tE X.K mk) (tE X.K me) T σ H := by
  obtain ⟨G, F, ρ, I, o, e, k⟩ := w
  obtain ⟨⟨r1, ρ1⟩, e1, e⟩ := Option.bind_eq_some_iff.mp e
  obtain ⟨⟨d1, ρ2⟩, e2, e⟩ := Option.bind_eq_some_iff.mp e
  dsimp only at e
  split at e
  case isFalse => cases e
  case isTrue how =>
  obtain ⟨⟨r3, ρ3⟩, e3, e⟩ := Option.bind_eq_some_iff.mp e
  obtain ⟨kd, e4, e⟩ := Option.bind_eq_some_iff.mp e
  dsimp only at e
  split at e
  case h_2 => cases e
  case h_1 b d hi =>
  obtain ⟨d', e5, e⟩ := Option.bind_eq_some_iff.mp e
  cases e
  have lstC : isLst d = true ∨ ∃ kv, d = .dic kv ∨ d = .dit kv := by
    cases d with
    | lst xs => exact .inl rfl
    | dic kv => exact .inr ⟨kv, .inl rfl⟩
    | dit kv => exact .inr ⟨kv, .inr rfl⟩
    | _ => cases e5
  rcases lstC with hl | hl
  · refine .inl ⟨G, F, ρ, I, r1, ρ1, e1, fun F1 H1 v1 l1 I1 k1 => ?_⟩
    obtain ⟨F2, l2, I2, r2⟩ := I1.frR k1 e2
    obtain ⟨p, hp⟩ := I2.isOw how
    refine ⟨.ref p, hp, G, F2, ρ2, I2, r3, ρ3, e3, fun F3 H3 v3 l3 I3 k3 => ?_⟩
    obtain ⟨v, hv, q, rfl, f3, ob, _⟩ := I3.slot _ _ hi
    rw [hp] at hv
    cases hv
    cases d with
    | lst xs =>
      have kk := I3.vw k3 e4
      cases kd with
      | int j =>
        obtain ⟨n, e6, e5⟩ := Option.bind_eq_some_iff.mp e5
        cases e5
        obtain ⟨ws, h1, r1'⟩ := ob
        exact ⟨p, ws, j, n, rfl, kk, h1, by rw [r1'.length]; exact e6, k F3 _ σ ((l1.trans l2).trans l3) (I3.mut hi hp ⟨_, upd_same, RA.set (r2.mono l3) n r1'⟩)⟩
      | _ => cases e5
    | _ => cases hl
  · refine .inr ⟨G, F, ρ, I, r1, ρ1, e1, fun F1 H1 v1 l1 I1 k1 => ?_⟩
    obtain ⟨F2, l2, I2, r2⟩ := I1.frR k1 e2
    obtain ⟨p, hp⟩ := I2.isOw how
    refine ⟨.ref p, hp, G, F2, ρ2, I2, r3, ρ3, e3, fun F3 H3 v3 l3 I3 k3 => ?_⟩
    obtain ⟨v, hv, q, rfl, f3, ob, _⟩ := I3.slot _ _ hi
    rw [hp] at hv
    cases hv
    have kk := I3.vw k3 e4
    obtain ⟨kv, rfl | rfl⟩ := hl
    · obtain ⟨kq, e6, e5⟩ := Option.bind_eq_some_iff.mp e5
      split at e5
      · rename_i hc
        cases e5
        obtain ⟨kvs, h1, r1'⟩ := ob
        have ek := keyOf_eq e6
        subst ek
        have eyv : v3 = kV kq := by cases kq <;> exact kk
        subst eyv
        exact ⟨p, _, rfl, .inl ⟨kvs, kq, h1, rfl, by rw [r1'.length]; exact cap_lt hc, rfl⟩, k F3 _ σ ((l1.trans l2).trans l3) (I3.mut hi hp ⟨_, upd_same, r1'.put kq (r2.mono l3)⟩)⟩
      · cases e5
    · obtain ⟨kq, e6, e5⟩ := Option.bind_eq_some_iff.mp e5
      split at e5
      · rename_i hc
        cases e5
        obtain ⟨kvs, h1, r1'⟩ := ob
        have ek := keysOf_eq e6
        subst ek
        obtain ⟨c, vs, rfl, h2, r2', _⟩ := kk
        have e7 := r2'.keys
        subst e7
        exact ⟨p, _, rfl, .inr ⟨kvs, kq, c, h1, rfl, h2, by rw [r1'.length]; exact cap_lt hc, rfl⟩, k F3 _ σ ((l1.trans l2).trans l3) (I3.mut hi hp ⟨_, upd_same, r1'.put kq (r2.mono l3)⟩)⟩
      · cases e5
theorem ds_store {X : Cx} {x : Str} {e ix : Expr} {me mk : ME} {np sp pos : Pos} (i : Nat) (hu : X.A.units + 1 < cLine) (he : DE X e me) (hk : DE X ix mk) (hN : X.N[i]? = some x := by rfl) (hv : Vis X.env.scope x := by first | exact Or.inl rfl | exact Or.inr (Or.inl rfl) | exact Or.inr (Or.inr rfl))
    (hdb : (x == ("__debug__" : Str)) = false := by decide) (hcd : (x == ("__classdict__" : Str)) = false := by decide)
    (ha : ∀ v, assign (.Subscript (.Name x np) ix sp) X.env v = (do
      let ov ← holding [v] (eval (.Name x np) X.env)
      let iv ← holding [v, ov] (eval ix X.env)
      standAt sp
      holding [v, ov, iv] (setItem ov iv v)
      release [v, ov, iv] []) := by intro _; rfl)
    (hs : swapsWithSole [.Subscript (.Name x np) ix sp] e pos.line X.env = pure false := by rfl) (hw : swappedStores [.Subscript (.Name x np) ix sp] e X.env = pure none := by rfl)
    (h1 : (assignEach [.Subscript (.Name x np) ix sp] X.env).map (·.2) = [assign (.Subscript (.Name x np) ix sp) X.env] := by rfl)
    (hs2 : swapsWith e (some (.Subscript (.Name x np) ix sp)) pos.line X.env = pure false := by rfl) : DS X (.Assign [.Subscript (.Name x np) ix sp] e pos) (mStore i me mk) :=
  psImp (psOr (ps_asg he (pg_sub (pe_var hN hv hdb hcd) hk set_list ha) hs hw h1) (ps_dput hu (pe_var hN hv hdb hcd) hk he hs2)) fun T σ H => store_of
/-! ### name op= e -/
def mAug (i : Nat) (f : D → D → Option O1) (m : ME) : MS := fun ρ => match ρ[i]? with
  | some (some (.fz d)) => (m ρ).bind fun p => (vw p.2 p.1).bind fun e => (f d e).bind fun o => match o with
    | .val z => (setE i (.fz z) p.2).bind fun ρ' => some (.nx ρ')
    | _ => none
  | _ => none
/-! ### what is walked -/
section
variable {X : Cx} {tg e e2 e3 : Expr} {m : ME} {ma : MA} {p pos : Pos}
def mISeq (m : ME) : MI := fun ρ => (m ρ).bind fun p => (frR p.1 p.2).bind fun q => (seqD q.1).bind fun ds => some (ds, q.2)
theorem walkD_list {K : Kf} {L : List (Addr × HO)} {F : Hp} {a : Addr} {vs : List V} {ds : List D} (hq : ∀ F2 H, Le F F2 → Sub F2 H → SqL K H a vs) (r : RA K F vs ds) : WalkD K L F (Itl K a) ds := by
  refine ⟨_, _, by rw [← r.length]; exact walk_list (xs := vs), fun F2 H l s _ => hq F2 H l s, fun i F2 H x H' hi l s y => ?_⟩
  obtain ⟨rfl, hx⟩ := y
  obtain ⟨d, hd, rd⟩ := r.get' hx
  exact ⟨d, F2, hd, Nw.refl s, rd.mono l⟩
theorem walkD_tup {K : Kf} {L : List (Addr × HO)} {F : Hp} {a : Addr} {vs : List V} {ds : List D} (hq : ∀ F2 H, Le F F2 → Sub F2 H → SqT K H a vs) (r : RA K F vs ds) : WalkD K L F (Itt K a) ds := by
  refine ⟨_, _, by rw [← r.length]; exact walk_tup (xs := vs), fun F2 H l s _ => hq F2 H l s, fun i F2 H x H' hi l s y => ?_⟩
  obtain ⟨rfl, hx⟩ := y
  obtain ⟨d, hd, rd⟩ := r.get' hx
  exact ⟨d, F2, hd, Nw.refl s, rd.mono l⟩
theorem di_seq (he : DE X e m) : DI X tg e (mISeq m) := piImp (piOr (pi_list (tg := tg) he) (pi_tup (tg := tg) he)) fun σ H Q ⟨G, F, ρ, I, ds, ρ', e, k⟩ => by
  obtain ⟨⟨r1, ρ1⟩, e1, e⟩ := Option.bind_eq_some_iff.mp e
  obtain ⟨⟨d, ρ2⟩, e2, e⟩ := Option.bind_eq_some_iff.mp e
  obtain ⟨ds', e3, e⟩ := Option.bind_eq_some_iff.mp e
  cases e
  cases d with
  | lst xs =>
    cases e3
    refine .inl ⟨G, F, ρ, I, r1, ρ1, e1, fun F1 H1 v1 l1 I1 k1 => ?_⟩
    obtain ⟨F2, l2, I2, r2⟩ := I1.frR k1 e2
    cases r2 with
    | lst fa ra => exact ⟨_, rfl, ⟨_, .of (I2.sub.nd fa rfl)⟩, k F2 H1 _ (l1.trans l2) I2 (walkD_list (fun F3 H3 l s => .of (s.nd (l _ _ fa) rfl)) ra)⟩
  | scr ns =>
    cases e3
    refine .inl ⟨G, F, ρ, I, r1, ρ1, e1, fun F1 H1 v1 l1 I1 k1 => ?_⟩
    obtain ⟨F2, l2, I2, r2⟩ := I1.frR k1 e2
    cases r2 with
    | scr fa => exact ⟨_, rfl, ⟨_, I2.sub.sq fa⟩, k F2 H1 _ (l1.trans l2) I2 (walkD_list (fun F3 H3 l s => s.sq (le_sq l fa)) (RA.of_ints ns))⟩
  | tup xs =>
    cases e3
    refine .inr ⟨G, F, ρ, I, r1, ρ1, e1, fun F1 H1 v1 l1 I1 k1 => ?_⟩
    obtain ⟨F2, l2, I2, r2⟩ := I1.frR k1 e2
    cases r2 with
    | tup fa ra => exact ⟨_, rfl, ⟨_, .of (I2.sub.nd fa rfl)⟩, k F2 H1 _ (l1.trans l2) I2 (walkD_tup (fun F3 H3 l s => .of (s.nd (l _ _ fa) rfl)) ra)⟩
  | tpl xs =>
    cases e3
    refine .inr ⟨G, F, ρ, I, r1, ρ1, e1, fun F1 H1 v1 l1 I1 k1 => ?_⟩
    obtain ⟨F2, l2, I2, r2⟩ := I1.frR k1 e2
    cases r2 with
    | tpl fa _ ra => exact ⟨_, rfl, ⟨_, .inl (.inr ⟨_, I2.sub.nd fa rfl⟩)⟩, k F2 H1 _ (l1.trans l2) I2 (walkD_tup (fun F3 H3 l s => .inl (.inr ⟨_, s.nd (l _ _ fa) rfl⟩)) ra)⟩
  | _ => cases e3
/-- a text, sign by sign -/
def signsD (z : Str) : List D := z.cps.toList.map fun c => D.str ⟨#[c]⟩
theorem walkD_str {K : Kf} {L : List (Addr × HO)} {F : Hp} {z : Str} : WalkD K L F (Its z) (signsD z) := by
  have hl : (signsD z).length = z.cps.size := by simp [signsD]
  refine ⟨_, _, by rw [hl]; exact walk_str, fun _ _ _ _ _ => trivial, fun i F2 H x H' hi l s y => ?_⟩
  obtain ⟨rfl, c, hc, rfl⟩ := y
  exact ⟨.str ⟨#[c]⟩, F2, by simp [signsD, hc], Nw.refl s, .str _⟩
def rngD (lo : Int) (n : Nat) : List D := (List.range n).map fun i => D.int (lo + (i : Nat))
theorem walkD_range {K : Kf} {L : List (Addr × HO)} {F : Hp} {lo : Int} {n : Nat} : WalkD K L F (Itr lo n) (rngD lo n) := by
  have hl : (rngD lo n).length = n := by simp [rngD]
  refine ⟨_, _, by rw [hl]; exact walk_range, fun _ _ _ _ _ => trivial, fun i F2 H x H' hi l s y => ?_⟩
  obtain ⟨rfl, rfl⟩ := y
  rw [hl] at hi
  exact ⟨.int (lo + i), F2, by simp [rngD, hi], Nw.refl s, .int _⟩
def rng1 : List D → Option (List D)
  | [.int j] => if -1000000 ≤ j ∧ j ≤ 1000000 then some (rngD 0 j.toNat) else none
  | _ => none
def rng2 : List D → Option (List D)
  | [.int i, .int j] => if (-1000000 ≤ i ∧ i ≤ 1000000) ∧ (-1000000 ≤ j ∧ j ≤ 1000000) then some (rngD i (j - i).toNat) else none
  | _ => none
def mIA (f : List D → Option (List D)) (ma : MA) : MI := fun ρ => (ma ρ).bind fun p => (vws p.2 p.1).bind fun ds => (f ds).bind fun xs => some (xs, p.2)
theorem iA_of {K : Kf} {f : List D → Option (List D)} {r : List V → Hp → (It → Hp → Prop) → Prop} (hr : ∀ F H L vs ds xs (Q : It → Hp → Prop), Sub F H → R1s K F H vs ds → f ds = some xs → (∀ J, WalkD K L F J xs → Q J H) → r vs H Q) {σ : L2.St} {H : Hp} {Q : It → Hp → Prop} (w : tI K (mIA f ma) σ H Q) : tA K ma σ H fun vs H1 => r vs H1 Q := by
  obtain ⟨G, F, ρ, I, ds, ρ', e, k⟩ := w
  obtain ⟨⟨rs, ρ1⟩, e1, e⟩ := Option.bind_eq_some_iff.mp e
  obtain ⟨xs, e2, e⟩ := Option.bind_eq_some_iff.mp e
  obtain ⟨ys, e3, e⟩ := Option.bind_eq_some_iff.mp e
  cases e
  exact ⟨G, F, ρ, I, rs, _, e1, fun F1 H1 vs l1 I1 k1 => hr F1 H1 G.Lk vs xs _ Q I1.sub (I1.vws k1 e2) e3 fun J wj => k F1 H1 J l1 I1 wj⟩
theorem di_range1 (hg : Gl X "range") (hm : X.mg "range" = none) (ha : DA X [e] ma) (hs : starEach [e] X.env = [(false, eval e X.env)] := by rfl) : DI X tg (.Call (.Name "range" p) [e] [] pos) (mIA rng1 ma) :=
  piImp (pi_range1 hg hm ha hs) fun σ H Q w => iA_of (r := fun vs H1 Q => ∃ j : Int, vs = [.int j] ∧ -(2 ^ 62) ≤ j ∧ j < 2 ^ 62 ∧ Q (Itr 0 j.toNat) H1) (fun F H L vs ds xs Q s a e k => by
    match ds, a, e with
    | [.int j], a, e =>
      obtain ⟨x, rfl, a'⟩ := a.one
      unfold rng1 at e
      dsimp only at e
      split at e
      · rename_i hc
        cases e
        exact ⟨j, by rw [show x = .int j from a'], by omega, by omega, k _ walkD_range⟩
      · cases e) w
def enumD (ds : List D) : List D := List.zipWith (fun d e => D.tup [d, e]) (rngD 0 ds.length) ds
end
end DL

set_option Elab.async false
set_option linter.all false
set_option maxRecDepth 100000
set_option maxHeartbeats 4000000
namespace DL
open PySem PySem.Spec PyProof.Rows L2

/-! ### isinstance -/
inductive TyN where
  | int | bool | str | tuple | list | dict
def TyN.s : TyN → String
  | .int => "int" | .bool => "bool" | .str => "str" | .tuple => "tuple" | .list => "list" | .dict => "dict"
def isiD (T : TyN) (d : D) : Option Bool := match d with
  | .non => some false
  | .bl _ => some (match T with | .int => true | .bool => true | _ => false)
  | .int _ => some (match T with | .int => true | _ => false)
  | .str _ => some (match T with | .str => true | _ => false)
  | .tup _ => some (match T with | .tuple => true | _ => false)
  | .tpl _ => some (match T with | .tuple => true | _ => false)
  | .lst _ => some (match T with | .list => true | _ => false)
  | _ => none
def mIsi (T : TyN) (m : ME) : MO := mUn (fun d => (isiD T d).bind fun b => some (.val (.bl b))) m
theorem kit_non (T : TyN) : kitB "NoneType" T.s = some false := by cases T <;> decide +kernel
theorem kit_bl (T : TyN) : kitB "bool" T.s = some (match T with | .int => true | .bool => true | _ => false) := by cases T <;> decide +kernel
theorem kit_int (T : TyN) : kitB "int" T.s = some (match T with | .int => true | _ => false) := by cases T <;> decide +kernel
theorem kit_str (T : TyN) : kitB "str" T.s = some (match T with | .str => true | _ => false) := by cases T <;> decide +kernel
theorem kit_tup (T : TyN) : kitB "tuple" T.s = some (match T with | .tuple => true | _ => false) := by cases T <;> decide +kernel
theorem kit_lst (T : TyN) : kitB "list" T.s = some (match T with | .list => true | _ => false) := by cases T <;> decide +kernel
theorem isi_of {K : Kf} {T : TyN} {F H : Hp} {x : V} {d : D} {b : Bool} (a : R1 K F H x d) (h : isiD T d = some b) : ∃ t, TyX K H x t ∧ PySem.W.kitOne K t (.type T.s) = some b := by
  cases d with
  | non => cases h; rw [show x = .non from a]; exact ⟨_, .base .non, kit_ty (kit_non T)⟩
  | bl c => cases h; rw [show x = .bl c from a]; exact ⟨_, .base (.bl c), kit_ty (kit_bl T)⟩
  | int c => cases h; rw [show x = .int c from a]; exact ⟨_, .base (.int c), kit_ty (kit_int T)⟩
  | str c => cases h; rw [show x = .str c from a]; exact ⟨_, .base (.str c), kit_ty (kit_str T)⟩
  | tup ds => cases h; obtain ⟨p, vs, rfl, h1, _⟩ := a; exact ⟨_, .base (.tup h1), kit_ty (kit_tup T)⟩
  | tpl ds => cases h; obtain ⟨p, ob, vs, rfl, h1, _⟩ := a; exact ⟨_, .fTuple h1, kit_ty (kit_tup T)⟩
  | lst ds => cases h; obtain ⟨p, vs, rfl, h1, _⟩ := a; exact ⟨_, .base (.lst h1), kit_ty (kit_lst T)⟩
  | _ => cases h
theorem do_isi {X : Cx} {e : Expr} {m : ME} {y : Str} {p p2 pos : Pos} (T : TyN) (hg : Gl X "isinstance") (hm : X.mg "isinstance" = none) (hg2 : Gl X y) (hm2 : X.mg y = none) (hv2 : bootBuiltins y = some (.type T.s)) (he : DE X e m)
    (hv : bootBuiltins "isinstance" = some (.builtin "isinstance") := by decide +kernel) (hn2 : y ≠ "__name__" := by decide) (hdb2 : (y == ("__debug__" : Str)) = false := by decide)
    (hs1 : starEach [e, .Name y p2] X.env = (false, eval e X.env) :: starEach [.Name y p2] X.env := by rfl) (hs2 : starEach [.Name y p2] X.env = (false, eval (.Name y p2) X.env) :: starEach [] X.env := by rfl) (hpl : (backTo pos (starEach [.Name y p2] X.env)).any (·.1) = false := by rfl) :
    DO X (.Call (.Name "isinstance" p) [e, .Name y p2] [] pos) (mIsi T m) :=
  peImp (pe_callB call_isi hg hm hv (pa_cons he (pa_cons (pe_bltn (v := .ty T.s) hg2 hm2 hv2 rfl hn2 hdb2) pa_nil hs2) hs1) (by decide) (by decide) hs1 hpl) fun σ H Q ⟨G, F, ρ, I, o, ρ', e, k⟩ => by
    obtain ⟨⟨r1, ρ1⟩, e1, e⟩ := Option.bind_eq_some_iff.mp e
    obtain ⟨d, e2, e⟩ := Option.bind_eq_some_iff.mp e
    obtain ⟨o', e3, e⟩ := Option.bind_eq_some_iff.mp e
    cases e
    obtain ⟨b, e4, e3⟩ := Option.bind_eq_some_iff.mp e3
    cases e3
    refine ⟨G, F, ρ, I, r1, _, e1, fun F1 H1 v l1 I1 k1 => ?_⟩
    obtain ⟨t, ty, kk⟩ := isi_of (I1.vw k1 e2) e4
    exact ⟨v, .ty T.s, t, _, b, rfl, .ty _, ty, kk, k F1 H1 l1 I1 _ (.bl _)⟩
/-! ### text * int -/
def dMulS : D → D → Option O1
  | .str x, .int n => if 0 ≤ n ∧ n ≤ 1000 ∧ x.length ≤ 1000 then some (.val (.str (Txt.mul x n))) else none
  | d, e => dMul d e
theorem op_mulStr {X : Cx} : OpR X (binaryOp .Mult) (fun x y H Q => ∃ z n, x = .str z ∧ y = .int n ∧ MulOk z n ∧ Q (.str (Txt.mul z n)) H) := fun pins s σ H x y v u Q I rx ry ⟨z, n, ex, ey, ok, q⟩ => by
  subst ex ey
  obtain ⟨t, rfl⟩ := rx
  obtain ⟨t', rfl⟩ := ry
  exact SB.mul ok fun t' k => ⟨.str _, H, I.tok k, ⟨_, rfl⟩, q⟩
theorem mulOk_small {x : Str} {n : Int} (h : 0 ≤ n ∧ n ≤ 1000 ∧ x.length ≤ 1000) : MulOk x n := by
  obtain ⟨h1, h2, h3⟩ := h
  refine ⟨?_, fun hn _ => ?_, fun hn _ => ?_⟩
  · rw [decide_eq_false (by omega), decide_eq_false (by omega)]; rfl
  · have : (x.length : Int) ≤ (2 ^ 63 - 1) / n := by
      rw [Int.le_ediv_iff_mul_le (by omega)]
      have : (x.length : Int) * n ≤ 1000 * 1000 := Int.mul_le_mul (by omega) h2 h1 (by decide)
      omega
    omega
  · have : x.length * n.toNat ≤ 1000 * 1000 := Nat.mul_le_mul h3 (by omega)
    have hz := sizeLine_eq
    unfold Builtin.Str.tooLong
    simp
    omega
theorem opd_mulS {K : Kf} : OpD K (fun x y H Q => rMulAll K x y H Q ∨ ∃ z n, x = .str z ∧ y = .int n ∧ MulOk z n ∧ Q (.str (Txt.mul z n)) H) dMulS := fun F H x y d e o Q s a b eo k => by
  have gen : dMul d e = some o → rMulAll K x y H Q := fun h => opd_mul F H x y d e o Q s a b h k
  cases d with
  | str z =>
    cases e with
    | int n =>
      unfold dMulS at eo
      dsimp only at eo
      split at eo
      · rename_i hc; cases eo; exact .inr ⟨z, n, a, b, mulOk_small hc, k _ (.str _)⟩
      · cases eo
    | _ => cases eo
  | _ => exact .inl (gen eo)
/-! ### texts' methods -/
def strsL : List D → Option (List Str)
  | [] => some []
  | .str i :: ds => (strsL ds).bind fun ns => some (i :: ns)
  | _ => none
def dJoin (d e : D) : Option O1 := match d with
  | .str z => (seqD e).bind fun ds => (strsL ds).bind fun ys => if (ys.map (·.length)).sum + ys.length * z.length ≤ cap then some (.val (.str (Txt.join z ys))) else none
  | _ => none
def isStrV : RV → Bool
  | .fz (.str _) => true
  | _ => false
def mM1 (f : D → D → Option O1) (mo me : ME) : MO := fun ρ => (mo ρ).bind fun p => if isStrV p.1 = true then (me p.2).bind fun q => (vw q.2 p.1).bind fun d => (vw q.2 q.1).bind fun e => (f d e).bind fun o => some (o, q.2) else none
section
variable {X : Cx} {a b : Expr} {ma mb : ME} {apos pos : Pos}
/-! ### and, or, not as values -/
def mAndE (a b : ME) : ME := fun ρ => (a ρ).bind fun p => match p.1 with
  | .fz (.bl true) => b p.2
  | .fz (.bl false) => some (.fz (.bl false), p.2)
  | _ => none
def mOrE (a b : ME) : ME := fun ρ => (a ρ).bind fun p => match p.1 with
  | .fz (.bl false) => b p.2
  | .fz (.bl true) => some (.fz (.bl true), p.2)
  | _ => none
def mNotE (a : ME) : ME := fun ρ => (a ρ).bind fun p => match p.1 with
  | .fz (.bl c) => some (.fz (.bl (!c)), p.2)
  | _ => none
theorem de_one {op} (h : DE X a ma) : DE X (.BoolOp op [a] pos) ma := pe_one h
theorem de_and {rest : List Expr} (ha : DE X a ma) (hb : DE X (.BoolOp .And (b :: rest) pos) mb) : DE X (.BoolOp .And (a :: b :: rest) pos) (mAndE ma mb) := peImp (pe_and ha hb) fun σ H Q ⟨G, F, ρ, I, r, ρ', e, k⟩ => by
  obtain ⟨⟨r1, ρ1⟩, e1, e⟩ := Option.bind_eq_some_iff.mp e
  refine ⟨G, F, ρ, I, r1, ρ1, e1, fun F1 H1 v l1 I1 k1 => ?_⟩
  dsimp only at e
  split at e
  · cases k1; exact ⟨true, rfl, G, F1, ρ1, I1, r, ρ', e, fun F2 H2 v2 l2 I2 => k F2 H2 v2 (l1.trans l2) I2⟩
  · cases e; cases k1; exact ⟨false, rfl, k F1 H1 _ l1 I1 (.bl _)⟩
  · cases e
theorem de_or {rest : List Expr} (ha : DE X a ma) (hb : DE X (.BoolOp .Or (b :: rest) pos) mb) : DE X (.BoolOp .Or (a :: b :: rest) pos) (mOrE ma mb) := peImp (pe_or ha hb) fun σ H Q ⟨G, F, ρ, I, r, ρ', e, k⟩ => by
  obtain ⟨⟨r1, ρ1⟩, e1, e⟩ := Option.bind_eq_some_iff.mp e
  refine ⟨G, F, ρ, I, r1, ρ1, e1, fun F1 H1 v l1 I1 k1 => ?_⟩
  dsimp only at e
  split at e
  · cases k1; exact ⟨false, rfl, G, F1, ρ1, I1, r, ρ', e, fun F2 H2 v2 l2 I2 => k F2 H2 v2 (l1.trans l2) I2⟩
  · cases e; cases k1; exact ⟨true, rfl, k F1 H1 _ l1 I1 (.bl _)⟩
  · cases e
theorem de_not (ha : DE X a ma) : DE X (.UnaryOp .Not a pos) (mNotE ma) := peImp (pe_not ha) fun σ H Q ⟨G, F, ρ, I, r, ρ', e, k⟩ => by
  obtain ⟨⟨r1, ρ1⟩, e1, e⟩ := Option.bind_eq_some_iff.mp e
  refine ⟨G, F, ρ, I, r1, ρ1, e1, fun F1 H1 v l1 I1 k1 => ?_⟩
  dsimp only at e
  split at e
  · cases e; cases k1; exact ⟨_, rfl, k F1 H1 _ l1 I1 (.bl _)⟩
  · cases e
/-- walked: a sequence or a text -/
def anyD : D → Option (List D)
  | .str z => some (signsD z)
  | d => seqD d
def mIAny (m : ME) : MI := fun ρ => (m ρ).bind fun p => (frR p.1 p.2).bind fun q => (anyD q.1).bind fun ds => some (ds, q.2)
theorem di_any {tg e : Expr} {m : ME} (he : DE X e m) : DI X tg e (mIAny m) := piImp (piOr (di_seq (tg := tg) he) (pi_str (tg := tg) he)) fun σ H Q ⟨G, F, ρ, I, ds, ρ', e, k⟩ => by
  obtain ⟨⟨r1, ρ1⟩, e1, e⟩ := Option.bind_eq_some_iff.mp e
  obtain ⟨⟨d, ρ2⟩, e2, e⟩ := Option.bind_eq_some_iff.mp e
  obtain ⟨ds', e3, e⟩ := Option.bind_eq_some_iff.mp e
  cases e
  have gen : seqD d = some ds → tI X.K (mISeq m) σ H Q := fun h => ⟨G, F, ρ, I, ds, _, by unfold mISeq; rw [e1]; show (frR r1 ρ1).bind _ = _; rw [e2]; show (seqD d).bind _ = _; rw [h]; rfl, k⟩
  cases d with
  | str z =>
    cases e3
    refine .inr ⟨G, F, ρ, I, r1, ρ1, e1, fun F1 H1 v l1 I1 k1 => ?_⟩
    obtain ⟨F2, l2, I2, r2⟩ := I1.frR k1 e2
    cases r2
    exact ⟨z, rfl, k F2 H1 _ (l1.trans l2) I2 walkD_str⟩
  | _ => exact .inl (gen e3)
theorem u65 {k : Nat} {A : Around} (r : Room k A) : A.units + 65 < cLine := by have := r.un; omega
theorem u1 {k : Nat} {A : Around} (r : Room k A) : A.units + 1 < cLine := by have := r.un; omega
/-! ### a < b < c -/
def mChain (f g : D → D → Option O1) (ma mb mc : ME) : MO := fun ρ => (ma ρ).bind fun p => (mb p.2).bind fun q => (vw q.2 p.1).bind fun d => (vw q.2 q.1).bind fun e => (f d e).bind fun o => match o with
  | .val (.bl true) => (mc q.2).bind fun s => (vw s.2 q.1).bind fun e => (vw s.2 s.1).bind fun z => (g e z).bind fun o => some (o, s.2)
  | .val (.bl false) => some (.val (.bl false), q.2)
  | _ => none
end
end DL

set_option Elab.async false
set_option linter.all false
set_option maxRecDepth 100000
set_option maxHeartbeats 4000000
namespace DL
open PySem PySem.Spec PyProof.Rows L2

/-! ### defs that refuse -/
section
variable {P : Program} {w : World} {K : Kf} {mg : Str → Option Value} {base : Heap} {k : Nat} {f : Addr} {fd : FuncData} {ps : List Str} {sp sp' : Sp}
end
/-! ### their calls -/
abbrev MC := En → Option ((D ⊕ Xc) × En)
def callX (mf : List D → Option D) (xf : List D → Option Xc) (ds : List D) : Option (D ⊕ Xc) := match mf ds with
  | some r => some (.inl r)
  | none => (xf ds).bind fun x => some (.inr x)
def mCX (mf : List D → Option D) (xf : List D → Option Xc) (ma : MA) : MC := fun ρ => (ma ρ).bind fun p => (frs p.1 p.2).bind fun q => (callX mf xf q.1).bind fun r => some (r, q.2)
section
variable {X : Cx} {k n : Nat} {f : Addr} {fd : FuncData} {ps : List Str} {x : Str} {p pos : Pos} {e : Expr} {es : List Expr} {mf : List D → Option D} {xf : List D → Option Xc} {ma : MA}
/-- found = f(..) -/
def mSetC (i : Nat) (m : MC) : MS := fun ρ => (m ρ).bind fun p => match p.1 with
  | .inl d => (setE i (.fz d) p.2).bind fun ρ' => some (.nx ρ')
  | .inr x => some (.xx x p.2)
/-- f(..) -/
def mDropC (m : MC) : MS := fun ρ => (m ρ).bind fun p => match p.1 with
  | .inl _ => some (.nx p.2)
  | .inr x => some (.xx x p.2)
/-- a, b = f(..) -/
def mAsgC (m : MC) (g : MG) : MS := fun ρ => (m ρ).bind fun p => match p.1 with
  | .inl d => (g d p.2).bind fun ρ' => some (.nx ρ')
  | .inr x => some (.xx x p.2)
/-- return f(..) -/
def mRetC (m : MC) : MS := fun ρ => (m ρ).bind fun p => match p.1 with
  | .inl d => some (.rt d p.2)
  | .inr x => some (.xx x p.2)
/-! ### raise C('..'), C without an __init__ of its own -/
def mRaise0 (c : Nat) : MS := fun ρ => some (.xx (c, []) ρ)
/-- what the text says of such a class -/
structure Ex0 (K : Kf) (mg : Str → Option Value) (c : Nat) (C : Addr) : Prop where
  at_ : ExA K c C
  g : mg (exName c) = some (.ref C)
  ei : PySem.W.excIn K C HandSPX.veTail "ValueError.__new__" = true
  kp : PySem.W.keepIn K (.ref C) = true
  sb : PySem.W.subIn K (.ref C) (.type "BaseException") = some true
  ty : PySem.W.typeIn K (.ref C) = some (.type "type")
end
end DL

set_option Elab.async false
set_option linter.all false
set_option maxRecDepth 100000
set_option maxHeartbeats 4000000
namespace DL
open PySem PySem.Spec PyProof.Rows L2

/-! ### what is caught is kept as a value -/
section
variable {X : Cx} {pins : List (Addr × Obj)} {σ : L2.St} {H : Hp} {s : Shared}
end
section
variable {X : Cx} {x n y : Str} {c : Value} {i j : Nat} {np nq yp ap pos pos' : Pos} {Wout : WX} {T : Ends} {pins : List (Addr × Obj)}
end
end DL

set_option Elab.async false
set_option linter.all false
set_option maxRecDepth 100000
set_option maxHeartbeats 4000000
namespace DL
open PySem PySem.Spec PyProof.Rows L2

/-! ### try: .. except x as n: y = n -/
theorem Rel.any {K : Kf} {G : Gh} {F H : Hp} {σ : L2.St} {ρ : En} {i : Nat} (I : Rel K G F H σ ρ) (hn : ∀ dv, ρ[i]? ≠ some (some dv)) (z : Option V) : Rel K G F H (σ.set i z) ρ := by
  have ne : ∀ {j dv}, ρ[j]? = some (some dv) → i ≠ j := fun e q => by subst q; exact hn _ e
  refine ⟨I.sub, by rw [List.length_set]; exact I.len, fun j dv e => ?_, fun a b c d e e' p ab h1 h2 h3 h4 => ?_, I.keep, I.grow, I.low, fun q hq => ?_, I.lk, fun q hq => ?_, I.bx, I.nn.step (Same.refl _) (fun j b ds e => ⟨e, List.getElem?_set_ne (ne e)⟩) (fun _ _ _ _ _ _ => rfl) (fun a ha => ⟨rfl, (I.nn.ni ha).1, (I.nn.ni ha).2.2.1⟩) rfl rfl fun j c e a e1 e2 => .inl ⟨c, e, e1, by rw [List.getElem?_set_ne (ne e1)] at e2; exact e2⟩⟩
  · rw [List.getElem?_set_ne (ne e)]; exact I.slot j dv e
  · rw [List.getElem?_set_ne (ne h1)] at h3
    rw [List.getElem?_set_ne (ne h2)] at h4
    exact I.dis a b c d e e' p ab h1 h2 h3 h4
  · obtain ⟨d, h1, h2⟩ := I.bor q hq
    exact ⟨d, h1, by rw [List.getElem?_set_ne (ne h1)]; exact h2⟩
  · obtain ⟨h1, h2, h3⟩ := I.pn q hq
    exact ⟨h1, h2, fun j b d e => by rw [List.getElem?_set_ne (ne e)]; exact h3 j b d e⟩
def isUn (ρ : En) (i : Nat) : Bool := match ρ[i]? with
  | some none => true
  | _ => false
/-- behind the body -/
def tryO (i j : Nat) (cs : List (Nat × Bool)) : Out → Option Out
  | .xx x ρ => match cs.lookup x.1 with
    | some true => if isUn ρ i = true then (setE j (.fz (.exc x.1 x.2)) ρ).bind fun ρ' => some (.nx ρ') else none
    | some false => some (.xx x ρ)
    | none => none
  | o => some o
def mTry (i j : Nat) (cs : List (Nat × Bool)) (mb : MS) : MS := fun ρ => (mb ρ).bind (tryO i j cs)
theorem XOk.r {K : Kf} {F : Hp} {x : Xc} {cls : Value} {d : Option Addr} {C a : Addr} (h : XOk K F x cls d) (ec : cls = .ref C) (ha : F a = none) : R K (upd F a (ExH C d a)) (.ref a) (.exc x.1 x.2) := by
  obtain ⟨C', h1, h2, h3⟩ := h
  rw [ec] at h2
  cases h2
  obtain ⟨c, fs⟩ := x
  rcases h3 with ⟨rfl, h3⟩ | ⟨dd, f, u, e, rfl, h3, h4, h5⟩
  · dsimp only at h3
    subst h3
    exact .ex0 h1 upd_same
  · dsimp only at h3
    subst h3
    exact .ex1 h1 upd_same (by rw [upd_ne (ne_of_none h4 ha)]; exact h4) (h5.mono (upd_le ha))
section
variable {X : Cx} {x n y : Str} {c : Value} {np nq yp ap pos pos' : Pos} {body : List Stmt} {mb : MS}
/-! ### isinstance of what was caught -/
structure ExI (K : Kf) (c : Nat) (C : Addr) : Prop where
  at_ : ExA K c C
  cl : (PySem.W.clsIn K C).isSome = true
  ga : PySem.W.findIn K (.ref C) "__getattribute__" = some (some (.builtin "BaseException.__getattribute__"))
  gg : PySem.W.findIn K (.ref C) "__getattr__" = some none
  sb : PySem.W.subIn K (.ref C) (.type "BaseException") = some true
  hd : PySem.W.hasDictIn K C = true
  ca : PySem.W.findIn K (.ref C) "__class__" = some (some (.builtin "object.__class__"))
  sp : PySem.W.specialIn K (.builtin "object.__class__") "__get__" = some (some (.builtin "getset_descriptor.__get__"))
  tk : PySem.W.takesIn K (.builtin "object.__class__") = some true
  mo : PySem.W.mroIn K C (.type "object") = some true
def isX (cs : List (Nat × Bool)) : D → Option O1
  | .exc c _ => (cs.lookup c).bind fun b => some (.val (.bl b))
  | _ => none
def mIsX (cs : List (Nat × Bool)) (m : ME) : MO := mUn (isX cs) m
variable {e : Expr} {m : ME} {p p2 : Pos}
/-! ### its field -/
def fieldX (f : Str) (cs : List Nat) : D → Option D
  | .exc c [(g, d)] => if g = f ∧ c ∈ cs then some d else none
  | _ => none
def mFieldX (f : Str) (cs : List Nat) (m : ME) : ME := fun ρ => (m ρ).bind fun p => (vw p.2 p.1).bind fun d => (fieldX f cs d).bind fun r => some (.fz r, p.2)
end
end DL

set_option Elab.async false
set_option linter.all false
set_option maxRecDepth 100000
set_option maxHeartbeats 4000000
namespace DL
open PySem PySem.Spec PyProof.Rows L2

/-! ### LongError.__init__(self, ..) -/
/-- what the text says of the class above -/
structure ExL (K : Kf) (mg : Str → Option Value) (L : Addr) : Prop where
  g : mg "LongError" = some (.ref L)
  sp : PySem.W.specialIn K (.ref L) "__getattribute__" = some (some (.builtin "type.__getattribute__"))
  rd : PySem.W.readsIn K L (.type "type") = true
  fi : PySem.W.findCls K (.ref L) (.type "type") "__init__" = some (.val (.builtin "ValueError.__init__"))
section
variable {X : Cx} {e : Expr} {es : List Expr} {ta : TA} {p1 p2 pos : Pos}
end
/-! ### str of a text -/
section
variable {X : Cx} {e : Expr} {ma : MA} {p pos : Pos}
end
/-! ### the __init__ of such a class -/
/-- what may be handed to it -/
def okX : D → Bool
  | .str x => decide (x.length ≤ 1000)
  | .int i => decide (0 ≤ i ∧ i < 200)
  | _ => false
section
variable {P : Program} {w : World} {K : Kf} {mg : Str → Option Value} {base : Heap}
end
/-! ### raise C(e), C with such an __init__ -/
def mRaise1 (c : Nat) (f : Str) (m : ME) : MS := fun ρ => (m ρ).bind fun p => (frR p.1 p.2).bind fun q => if okX q.1 = true then some (.xx (c, [(f, q.1)]) q.2) else none
end DL

set_option Elab.async false
set_option linter.all false
set_option maxRecDepth 100000
set_option maxHeartbeats 4000000
namespace DL
open PySem PySem.Spec PyProof.Rows L2

/-! ### xs.count(x), xs.index(x) of a list; xs.insert(i, x) -/
/-- o.m(e) of a list -/
def mL1 (f : D → D → Option O1) (mo me : ME) : MO := fun ρ => (mo ρ).bind fun p => (vw p.2 p.1).bind fun d0 => if isLst d0 = true then (me p.2).bind fun q => (vw q.2 p.1).bind fun d => (vw q.2 q.1).bind fun e => (f d e).bind fun o => some (o, q.2) else none
section
variable {X : Cx} {a b e e2 : Expr} {ma mb : ME} {m : MA} {p apos pos cpos : Pos} {x : Str}
end
end DL

set_option Elab.async false
set_option linter.all false
set_option maxRecDepth 100000
set_option maxHeartbeats 4000000
/-! zip of two lists or tuples, in any mix -/
namespace DZ
open PySem PySem.Spec
open PySem.Sem (wp)
def SIt : Bool → Heap → Addr → Addr → Nat → Prop
  | true, h, it, l, i => h.IsTupleIter it l i
  | false, h, it, l, i => h.IsListIter it l i
def SSq : Bool → Heap → Addr → Array Value → Prop
  | true, h, l, xs => h.IsTuple l xs
  | false, h, l, xs => h.IsList l xs
theorem SIt.at : ∀ {tp : Bool} {h h' : Heap} {a l : Addr} {i : Nat}, SIt tp h a l i → (∀ o, h.get? a = some o → h'.get? a = some o) → SIt tp h' a l i
  | true, _, _, _, _, _, x, e => Heap.IsTupleIter.at x e
  | false, _, _, _, _, _, x, e => Heap.IsListIter.at x e
theorem SSq.at : ∀ {tp : Bool} {h h' : Heap} {a : Addr} {xs : Array Value}, SSq tp h a xs → (∀ o, h.get? a = some o → h'.get? a = some o) → SSq tp h' a xs
  | true, _, _, _, _, x, e => Heap.IsTuple.at x e
  | false, _, _, _, _, x, e => Heap.IsList.at x e
theorem SIt.ob : ∀ {tp : Bool} {h : Heap} {a l : Addr} {i : Nat}, SIt tp h a l i → ∃ o, h.get? a = some o ∧ o.data = .fields #[.ref l, .int i 0]
  | true, _, _, _, _, ⟨o, e, _, d⟩ => ⟨o, e, d⟩
  | false, _, _, _, _, ⟨o, e, _, d⟩ => ⟨o, e, d⟩
theorem SSq.ob : ∀ {tp : Bool} {h : Heap} {a : Addr} {xs : Array Value}, SSq tp h a xs → ∃ o, h.get? a = some o
  | true, _, _, _, ⟨o, e, _⟩ => ⟨o, e⟩
  | false, _, _, _, ⟨o, e, _⟩ => ⟨o, e⟩
section
variable {prog : Program} {w : World} {A : Around} {E : Value → Shared → Prop} {s : Shared}
theorem next_item : ∀ {tp : Bool} {it l : Addr} {i : Nat} {items : Array Value} {x : Value} {Q : Value → Shared → Prop}, SIt tp s.heap it l i → SSq tp s.heap l items → items[i]? = some x →
    (∀ h', SIt tp h' it l (i + 1) → Heap.SameBut it s.heap h' → Q x { s with heap := h' }) → wpAny (model prog w) A (Builtin.SmallTypes.nextOf (.ref it)) Q E s
  | true, _, _, _, _, _, _, a, b, c, k => RZ.nextOf_tuple_item a b c k
  | false, _, _, _, _, _, _, a, b, c, k => wpAny_nextOf_list_item a b c k
theorem next_end : ∀ {tp : Bool} {it l : Addr} {i : Nat} {items : Array Value} {Q : Value → Shared → Prop}, A.handled = none → SIt tp s.heap it l i → SSq tp s.heap l items → items[i]? = none →
    (∀ h' e, Heap.ExtBut it s.heap h' → (∃ o, h'.get? e = some o ∧ o.cls = .type "StopIteration") → E (.ref e) { s with heap := h' }) → wpAny (model prog w) A (Builtin.SmallTypes.nextOf (.ref it)) Q E s
  | true, _, _, _, _, _, hh, a, b, c, k => RZ.nextOf_tuple_end hh a b c k
  | false, _, _, _, _, _, hh, a, b, c, k => wpAny_nextOf_list_end hh a b c k
variable {t1 t2 : Bool} {z TI TO T i1 i2 l1 l2 : Addr} {k1 k2 : Nat} {xs ys : Array Value} {x y a b : Value} {f : Bool} {oT : Obj}
theorem nx_item {Q : Value → Shared → Prop} (D : ZipApart z TI TO i1 i2 l1 l2) (hz : IsZip s.heap z TI TO .none) (hI : IsPair s.heap TI (.ref i1) (.ref i2)) (hO : IsPair s.heap TO a b)
    (q1 : SIt t1 s.heap i1 l1 k1) (q2 : SIt t2 s.heap i2 l2 k2) (p1 : SSq t1 s.heap l1 xs) (p2 : SSq t2 s.heap l2 ys) (hx : xs[k1]? = some x) (hy : ys[k2]? = some y)
    (K : ∀ h', IsZip h' z TI TO (rawInt s.heap.objs.size) → IsPair h' TO x y → SIt t1 h' i1 l1 (k1 + 1) → SIt t2 h' i2 l2 (k2 + 1) → IsPair h' s.heap.objs.size x y → h'.objs.size = s.heap.objs.size + 1 →
      (∀ c o, c ≠ z → c ≠ TO → c ≠ i1 → c ≠ i2 → s.heap.get? c = some o → h'.get? c = some o) → Q (.ref s.heap.objs.size) { s with heap := h' }) :
    wpAny (model prog w) A (Builtin.«zip.__next__» ⟨[.ref z], []⟩) (fun fin s' => ∃ v, fin = .done (.ret v) ∧ Q v s') E s := by
  show wpAny _ _ (field (.ref z) 2 >>= _) _ _ _
  refine wpAny_bind (wpAny_field hz rfl (x := .bool false) rfl ?_)
  show wpAny _ _ (field (.ref z) 3 >>= _) _ _ _
  refine wpAny_bind (wpAny_field hz rfl (x := .ref TI) rfl ?_)
  refine wpAny_bind (wpAny_seqItems hI rfl ?_)
  show wpAny _ _ (Builtin.SmallTypes.ownedTupleIsFree (.ref z) >>= _) _ _ _
  refine wpAny_bind ?_
  unfold Builtin.SmallTypes.ownedTupleIsFree
  refine wpAny_bind (wpAny_field hz rfl (x := .none) rfl (wpAny_pure ?_))
  simp only [if_true]
  refine wpAny_bind (wpAny_rule ?_)
  refine wpAny_bind (wpAny_field hz rfl (x := .ref TO) rfl ?_)
  refine wpAny_bind (wpAny_setField_rec hz (by simp) fun g1 z1 s1 => ?_)
  replace z1 : IsZip g1 z TI TO .ellipsis := z1
  refine wpAny_bind ?_
  simp only [List.zipIdx_cons, List.zipIdx_nil, List.forIn_cons, List.forIn_nil]
  refine wpAny_bind (wpAny_bind (wpAny_onRaise ?_))
  show wpAny _ _ (Builtin.SmallTypes.nextOf (.ref i1) >>= _) _ _ _
  refine wpAny_bind (next_item (q1.at fun o e => s1.extBut _ _ D.i1z e) (p1.at fun o e => s1.extBut _ _ D.l1z e) hx fun g2 r1 s2 => wpAny_pure ?_)
  have O2 : IsPair g2 TO a b := s2.extBut _ _ D.TOi1 (s1.extBut _ _ D.TOz hO)
  refine wpAny_bind (wpAny_seqItems O2 rfl ?_)
  refine wpAny_bind (wpAny_updateSeq_pair O2 fun g3 O3 s3 => ?_)
  replace O3 : IsPair g3 TO x b := O3
  refine wpAny_bind (wpAny_letGo (wpAny_pure ?_))
  refine wpAny_bind (wpAny_bind (wpAny_onRaise ?_))
  show wpAny _ _ (Builtin.SmallTypes.nextOf (.ref i2) >>= _) _ _ _
  refine wpAny_bind (next_item (((q2.at fun o e => s1.extBut _ _ D.i2z e).at fun o e => s2.extBut _ _ D.i12.symm e).at fun o e => s3.extBut _ _ D.TOi2.symm e)
    (((p2.at fun o e => s1.extBut _ _ D.l2z e).at fun o e => s2.extBut _ _ D.l2i1 e).at fun o e => s3.extBut _ _ D.l2TO e) hy fun g4 r2 s4 => wpAny_pure ?_)
  have O4 : IsPair g4 TO x b := s4.extBut _ _ D.TOi2 O3
  refine wpAny_bind (wpAny_seqItems O4 rfl ?_)
  refine wpAny_bind (wpAny_updateSeq_pair O4 fun g5 O5 s5 => ?_)
  replace O5 : IsPair g5 TO x y := O5
  refine wpAny_bind (wpAny_letGo (wpAny_pure (wpAny_pure ?_)))
  refine wpAny_bind (wpAny_seqItems O5 rfl ?_)
  refine wpAny_bind (wpAny_newTuple ?_)
  have hsz : g5.objs.size = s.heap.objs.size := by rw [s5.1, s4.1, s3.1, s2.1, s1.1]
  have z5 : IsZip g5 z TI TO .ellipsis := s5.extBut _ _ D.TOz.symm (s4.extBut _ _ D.i2z.symm (s3.extBut _ _ D.TOz.symm (s2.extBut _ _ D.i1z.symm z1)))
  have up5 : ∀ c o, c ≠ z → c ≠ TO → c ≠ i1 → c ≠ i2 → s.heap.get? c = some o → g5.get? c = some o := fun c o c1 c2 c3 c4 e =>
    s5.extBut _ _ c2 (s4.extBut _ _ c4 (s3.extBut _ _ c2 (s2.extBut _ _ c3 (s1.extBut _ _ c1 e))))
  have R1 : SIt t1 g5 i1 l1 (k1 + 1) := ((r1.at fun o e => s3.extBut _ _ D.TOi1.symm e).at fun o e => s4.extBut _ _ D.i12 e).at fun o e => s5.extBut _ _ D.TOi1.symm e
  have R2 : SIt t2 g5 i2 l2 (k2 + 1) := r2.at fun o e => s5.extBut _ _ D.TOi2.symm e
  have zlt : z < g5.objs.size := Heap.lt_size z5
  show wpAny _ _ (Builtin.SmallTypes.ownedTupleHandOut (.ref z) (.ref g5.objs.size) >>= _) _ _ _
  refine wpAny_bind ?_
  unfold Builtin.SmallTypes.ownedTupleHandOut
  have z6 : IsZip (g5.push { cls := .type "tuple", data := .seq #[x, y] }) z TI TO .ellipsis := Heap.get?_push_of_some _ z5
  refine wpAny_bind (wpAny_setField_rec z6 (by simp) fun g7 z7 s7 => ?_)
  replace z7 : IsZip g7 z TI TO (rawInt g5.objs.size) := z7
  refine wpAny_setField_rec z7 (by simp) fun g8 z8 s8 => ?_
  replace z8 : IsZip g8 z TI TO (rawInt g5.objs.size) := z8
  have up : ∀ c o, c ≠ z → g5.get? c = some o → g8.get? c = some o := fun c o c1 e => s8.extBut _ _ c1 (s7.extBut _ _ c1 (Heap.get?_push_of_some _ e))
  have T8 : IsPair g8 g5.objs.size x y := s8.extBut _ _ (Nat.ne_of_gt zlt) (s7.extBut _ _ (Nat.ne_of_gt zlt) (Heap.get?_push_size _ rfl))
  have size8 : g8.objs.size = g5.objs.size + 1 := by rw [s8.1, s7.1, Heap.size_push]
  rw [hsz] at z8 T8 size8
  refine wpAny_pure ⟨_, rfl, ?_⟩
  show Q (.ref g5.objs.size) _
  rw [hsz]
  exact K g8 z8 (up _ _ D.TOz O5) (R1.at fun o e => up _ o D.i1z e) (R2.at fun o e => up _ o D.i2z e) T8 size8 fun c o c1 c2 c3 c4 e => up c o c1 (up5 c o c1 c2 c3 c4 e)
theorem nx_end {Q : Fin → Shared → Prop} (hh : A.handled = none) (D : ZipApart z TI TO i1 i2 l1 l2) (hz : IsZip s.heap z TI TO .none) (hI : IsPair s.heap TI (.ref i1) (.ref i2)) (hO : IsPair s.heap TO a b)
    (q1 : SIt t1 s.heap i1 l1 k1) (q2 : SIt t2 s.heap i2 l2 k2) (p1 : SSq t1 s.heap l1 xs) (p2 : SSq t2 s.heap l2 ys) (hend : xs[k1]? = none ∨ ys[k2]? = none)
    (K : ∀ h' e, (∀ c o, c ≠ z → c ≠ TO → c ≠ i1 → c ≠ i2 → s.heap.get? c = some o → h'.get? c = some o) → (∃ o, h'.get? e = some o ∧ o.cls = .type "StopIteration") → E (.ref e) { s with heap := h' }) :
    wpAny (model prog w) A (Builtin.«zip.__next__» ⟨[.ref z], []⟩) Q E s := by
  show wpAny _ _ (field (.ref z) 2 >>= _) _ _ _
  refine wpAny_bind (wpAny_field hz rfl (x := .bool false) rfl ?_)
  show wpAny _ _ (field (.ref z) 3 >>= _) _ _ _
  refine wpAny_bind (wpAny_field hz rfl (x := .ref TI) rfl ?_)
  refine wpAny_bind (wpAny_seqItems hI rfl ?_)
  show wpAny _ _ (Builtin.SmallTypes.ownedTupleIsFree (.ref z) >>= _) _ _ _
  refine wpAny_bind ?_
  unfold Builtin.SmallTypes.ownedTupleIsFree
  refine wpAny_bind (wpAny_field hz rfl (x := .none) rfl (wpAny_pure ?_))
  simp only [if_true]
  refine wpAny_bind (wpAny_rule ?_)
  refine wpAny_bind (wpAny_field hz rfl (x := .ref TO) rfl ?_)
  refine wpAny_bind (wpAny_setField_rec hz (by simp) fun g1 z1 s1 => ?_)
  replace z1 : IsZip g1 z TI TO .ellipsis := z1
  refine wpAny_bind ?_
  simp only [List.zipIdx_cons, List.zipIdx_nil, List.forIn_cons, List.forIn_nil]
  refine wpAny_bind (wpAny_bind (wpAny_onRaise ?_))
  show wpAny _ _ (Builtin.SmallTypes.nextOf (.ref i1) >>= _) _ _ _
  cases hx : xs[k1]? with
  | none =>
    refine wpAny_bind (next_end hh (q1.at fun o e => s1.extBut _ _ D.i1z e) (p1.at fun o e => s1.extBut _ _ D.l1z e) hx fun g2 e s2 he => ?_)
    obtain ⟨oe, hoe, hce⟩ := he
    have z2 : IsZip g2 z TI TO .ellipsis := s2 _ _ D.i1z.symm z1
    have ez : e ≠ z := fun x => by subst x; rw [z2] at hoe; cases hoe; simp at hce
    exact wpAny_setField_rec z2 (by simp) fun g3 _ s3 => K g3 e (fun c o c1 _ c3 _ x => s3.extBut _ _ c1 (s2 _ _ c3 (s1.extBut _ _ c1 x))) ⟨oe, s3.extBut _ _ ez hoe, hce⟩
  | some x =>
    have hy : ys[k2]? = none := by rcases hend with h | h; rw [hx] at h; cases h; exact h
    refine wpAny_bind (next_item (q1.at fun o e => s1.extBut _ _ D.i1z e) (p1.at fun o e => s1.extBut _ _ D.l1z e) hx fun g2 r1 s2 => wpAny_pure ?_)
    have O2 : IsPair g2 TO a b := s2.extBut _ _ D.TOi1 (s1.extBut _ _ D.TOz hO)
    refine wpAny_bind (wpAny_seqItems O2 rfl ?_)
    refine wpAny_bind (wpAny_updateSeq_pair O2 fun g3 O3 s3 => ?_)
    refine wpAny_bind (wpAny_letGo (wpAny_pure ?_))
    refine wpAny_bind (wpAny_bind (wpAny_onRaise ?_))
    show wpAny _ _ (Builtin.SmallTypes.nextOf (.ref i2) >>= _) _ _ _
    refine wpAny_bind (next_end hh (((q2.at fun o e => s1.extBut _ _ D.i2z e).at fun o e => s2.extBut _ _ D.i12.symm e).at fun o e => s3.extBut _ _ D.TOi2.symm e)
      (((p2.at fun o e => s1.extBut _ _ D.l2z e).at fun o e => s2.extBut _ _ D.l2i1 e).at fun o e => s3.extBut _ _ D.l2TO e) hy fun g4 e s4 he => ?_)
    obtain ⟨oe, hoe, hce⟩ := he
    have z4 : IsZip g4 z TI TO .ellipsis := s4 _ _ D.i2z.symm (s3.extBut _ _ D.TOz.symm (s2.extBut _ _ D.i1z.symm z1))
    have ez : e ≠ z := fun x => by subst x; rw [z4] at hoe; cases hoe; simp at hce
    exact wpAny_setField_rec z4 (by simp) fun g5 _ s5 => K g5 e (fun c o c1 c2 c3 c4 x => s5.extBut _ _ c1 (s4 _ _ c4 (s3.extBut _ _ c2 (s2.extBut _ _ c3 (s1.extBut _ _ c1 x))))) ⟨oe, s5.extBut _ _ ez hoe, hce⟩
theorem nx_itemH {Q : Value → Shared → Prop} (D : ZipApart z TI TO i1 i2 l1 l2) (hz : IsZipHeld s.heap z TI TO T f) (hT : s.heap.get? T = some oT) (hI : IsPair s.heap TI (.ref i1) (.ref i2))
    (q1 : SIt t1 s.heap i1 l1 k1) (q2 : SIt t2 s.heap i2 l2 k2) (p1 : SSq t1 s.heap l1 xs) (p2 : SSq t2 s.heap l2 ys) (hx : xs[k1]? = some x) (hy : ys[k2]? = some y)
    (K : ∀ h', IsZipHeld h' z TI TO T true → SIt t1 h' i1 l1 (k1 + 1) → SIt t2 h' i2 l2 (k2 + 1) → IsPair h' s.heap.objs.size x y → h'.objs.size = s.heap.objs.size + 1 →
      (∀ c o, c ≠ z → c ≠ i1 → c ≠ i2 → s.heap.get? c = some o → h'.get? c = some o) → Q (.ref s.heap.objs.size) { s with heap := h' }) :
    wpAny (model prog w) A (Builtin.«zip.__next__» ⟨[.ref z], []⟩) (fun fin s' => ∃ v, fin = .done (.ret v) ∧ Q v s') E s := by
  show wpAny _ _ (field (.ref z) 2 >>= _) _ _ _
  refine wpAny_bind (wpAny_field hz rfl (x := .bool false) rfl ?_)
  show wpAny _ _ (field (.ref z) 3 >>= _) _ _ _
  refine wpAny_bind (wpAny_field hz rfl (x := .ref TI) rfl ?_)
  refine wpAny_bind (wpAny_seqItems hI rfl ?_)
  show wpAny _ _ (Builtin.SmallTypes.ownedTupleIsFree (.ref z) >>= _) _ _ _
  refine wpAny_bind (wpAny_tupleHeld_zip hz hT fun g1 z1 s1 => ?_)
  simp only [Bool.false_eq_true, if_false]
  refine wpAny_bind ?_
  rw [← Array.forIn_toList]
  simp only [List.forIn_cons, List.forIn_nil]
  refine wpAny_bind (wpAny_bind (wpAny_holding ?_))
  show wpAny _ _ (Builtin.SmallTypes.nextOf (.ref i1) >>= _) _ _ _
  refine wpAny_bind (next_item (s := { s with heap := g1 }) (q1.at fun o e => s1.extBut _ _ D.i1z e) (p1.at fun o e => s1.extBut _ _ D.l1z e) hx fun g2 r1 s2 => wpAny_pure ?_)
  refine wpAny_pure ?_
  refine wpAny_bind (wpAny_bind (wpAny_holding ?_))
  show wpAny _ _ (Builtin.SmallTypes.nextOf (.ref i2) >>= _) _ _ _
  refine wpAny_bind (next_item (s := { s with heap := g2 }) ((q2.at fun o e => s1.extBut _ _ D.i2z e).at fun o e => s2.extBut _ _ D.i12.symm e) ((p2.at fun o e => s1.extBut _ _ D.l2z e).at fun o e => s2.extBut _ _ D.l2i1 e) hy fun g3 r2 s3 => wpAny_pure ?_)
  refine wpAny_pure (wpAny_pure ?_)
  show wpAny _ _ (newTuple [x, y] >>= _) _ _ _
  refine wpAny_bind (wpAny_newTuple ?_)
  have hsz : g3.objs.size = s.heap.objs.size := by rw [s3.1, s2.1, s1.1]
  have z3 : IsZipHeld g3 z TI TO T true := s3.extBut _ _ D.i2z.symm (s2.extBut _ _ D.i1z.symm z1)
  have up : ∀ c o, c ≠ z → c ≠ i1 → c ≠ i2 → s.heap.get? c = some o → g3.get? c = some o := fun c o c1 c2 c3 e => s3.extBut _ _ c3 (s2.extBut _ _ c2 (s1.extBut _ _ c1 e))
  refine wpAny_pure ⟨_, rfl, ?_⟩
  show Q (.ref g3.objs.size) _
  have hp : IsPair (g3.push { cls := .type "tuple", data := .seq #[x, y] }) g3.objs.size x y := Heap.get?_push_size _ rfl
  have hz4 : (g3.push { cls := .type "tuple", data := .seq #[x, y] }).objs.size = g3.objs.size + 1 := Heap.size_push ..
  rw [hsz] at hp hz4 ⊢
  exact K _ (Heap.get?_push_of_some _ z3) ((r1.at fun o e => s3.extBut _ _ D.i12 e).at fun o e => Heap.get?_push_of_some _ e) (r2.at fun o e => Heap.get?_push_of_some _ e) hp hz4 fun c o c1 c2 c3 e => Heap.get?_push_of_some _ (up c o c1 c2 c3 e)
theorem nx_endH {Q : Fin → Shared → Prop} (hh : A.handled = none) (D : ZipApart z TI TO i1 i2 l1 l2) (hz : IsZipHeld s.heap z TI TO T f) (hT : s.heap.get? T = some oT) (hI : IsPair s.heap TI (.ref i1) (.ref i2))
    (q1 : SIt t1 s.heap i1 l1 k1) (q2 : SIt t2 s.heap i2 l2 k2) (p1 : SSq t1 s.heap l1 xs) (p2 : SSq t2 s.heap l2 ys) (hend : xs[k1]? = none ∨ ys[k2]? = none)
    (K : ∀ h' e, (∀ c o, c ≠ z → c ≠ i1 → c ≠ i2 → s.heap.get? c = some o → h'.get? c = some o) → (∃ o, h'.get? e = some o ∧ o.cls = .type "StopIteration") → E (.ref e) { s with heap := h' }) :
    wpAny (model prog w) A (Builtin.«zip.__next__» ⟨[.ref z], []⟩) Q E s := by
  show wpAny _ _ (field (.ref z) 2 >>= _) _ _ _
  refine wpAny_bind (wpAny_field hz rfl (x := .bool false) rfl ?_)
  show wpAny _ _ (field (.ref z) 3 >>= _) _ _ _
  refine wpAny_bind (wpAny_field hz rfl (x := .ref TI) rfl ?_)
  refine wpAny_bind (wpAny_seqItems hI rfl ?_)
  show wpAny _ _ (Builtin.SmallTypes.ownedTupleIsFree (.ref z) >>= _) _ _ _
  refine wpAny_bind (wpAny_tupleHeld_zip hz hT fun g1 z1 s1 => ?_)
  simp only [Bool.false_eq_true, if_false]
  refine wpAny_bind ?_
  rw [← Array.forIn_toList]
  simp only [List.forIn_cons, List.forIn_nil]
  refine wpAny_bind (wpAny_bind (wpAny_holding ?_))
  show wpAny _ _ (Builtin.SmallTypes.nextOf (.ref i1) >>= _) _ _ _
  cases hx : xs[k1]? with
  | none =>
    refine wpAny_bind (next_end (s := { s with heap := g1 }) hh (q1.at fun o e => s1.extBut _ _ D.i1z e) (p1.at fun o e => s1.extBut _ _ D.l1z e) hx fun g2 e s2 he => ?_)
    exact K g2 e (fun c o c1 c2 _ x => s2 _ _ c2 (s1.extBut _ _ c1 x)) he
  | some x =>
    have hy : ys[k2]? = none := by rcases hend with h | h; rw [hx] at h; cases h; exact h
    refine wpAny_bind (next_item (s := { s with heap := g1 }) (q1.at fun o e => s1.extBut _ _ D.i1z e) (p1.at fun o e => s1.extBut _ _ D.l1z e) hx fun g2 r1 s2 => wpAny_pure ?_)
    refine wpAny_pure ?_
    refine wpAny_bind (wpAny_bind (wpAny_holding ?_))
    show wpAny _ _ (Builtin.SmallTypes.nextOf (.ref i2) >>= _) _ _ _
    refine wpAny_bind (next_end (s := { s with heap := g2 }) hh ((q2.at fun o e => s1.extBut _ _ D.i2z e).at fun o e => s2.extBut _ _ D.i12.symm e) ((p2.at fun o e => s1.extBut _ _ D.l2z e).at fun o e => s2.extBut _ _ D.l2i1 e) hy fun g3 e s3 he => ?_)
    exact K g3 e (fun c o c1 c2 c3 x => s3 _ _ c3 (s2.extBut _ _ c2 (s1.extBut _ _ c1 x))) he
theorem py_item {Q : Option Value → Shared → Prop} (D : ZipApart z TI TO i1 i2 l1 l2) (hz : IsZip s.heap z TI TO .none) (hI : IsPair s.heap TI (.ref i1) (.ref i2)) (hO : IsPair s.heap TO a b)
    (q1 : SIt t1 s.heap i1 l1 k1) (q2 : SIt t2 s.heap i2 l2 k2) (p1 : SSq t1 s.heap l1 xs) (p2 : SSq t2 s.heap l2 ys) (hx : xs[k1]? = some x) (hy : ys[k2]? = some y)
    (K : ∀ h', IsZip h' z TI TO (rawInt s.heap.objs.size) → IsPair h' TO x y → SIt t1 h' i1 l1 (k1 + 1) → SIt t2 h' i2 l2 (k2 + 1) → IsPair h' s.heap.objs.size x y → h'.objs.size = s.heap.objs.size + 1 →
      (∀ c o, c ≠ z → c ≠ TO → c ≠ i1 → c ≠ i2 → s.heap.get? c = some o → h'.get? c = some o) → Q (some (.ref s.heap.objs.size)) { s with heap := h' }) : wpAny (model prog w) A (pyNext (.ref z)) Q E s := by
  have ty : s.TypeIs (.ref z) "zip" := ⟨_, hz, rfl⟩
  unfold pyNext
  exact wpAny_bind (wpAny_attempt (wpAny_callSpecial?_slot (name := Str.ofString "__next__") ty F.slot_zip_next
    (wpAny_call_entry F.slot_zip_next ty F.entry_zip_next (nx_item D hz hI hO q1 q2 p1 p2 hx hy fun h' a1 a2 a3 a4 a5 a6 a7 => wpAny_pure (K h' a1 a2 a3 a4 a5 a6 a7)) (F.args_zip_next_1 _))))
theorem py_end {Q : Option Value → Shared → Prop} (hh : A.handled = none) (D : ZipApart z TI TO i1 i2 l1 l2) (hz : IsZip s.heap z TI TO .none) (hI : IsPair s.heap TI (.ref i1) (.ref i2)) (hO : IsPair s.heap TO a b)
    (q1 : SIt t1 s.heap i1 l1 k1) (q2 : SIt t2 s.heap i2 l2 k2) (p1 : SSq t1 s.heap l1 xs) (p2 : SSq t2 s.heap l2 ys) (hend : xs[k1]? = none ∨ ys[k2]? = none)
    (K : ∀ h', (∀ c o, c ≠ z → c ≠ TO → c ≠ i1 → c ≠ i2 → s.heap.get? c = some o → h'.get? c = some o) → Q none { s with heap := h' }) : wpAny (model prog w) A (pyNext (.ref z)) Q E s := by
  have ty : s.TypeIs (.ref z) "zip" := ⟨_, hz, rfl⟩
  unfold pyNext
  refine wpAny_bind (wpAny_attempt (wpAny_callSpecial?_slot (name := Str.ofString "__next__") ty F.slot_zip_next
    (wpAny_call_entry F.slot_zip_next ty F.entry_zip_next (nx_end hh D hz hI hO q1 q2 p1 p2 hend fun h' e hk he => ?_) (F.args_zip_next_1 _))))
  obtain ⟨o, ho, hc⟩ := he
  exact wpAny_bind (wpAny_isInstance (T := "StopIteration") (b := true) ⟨o, ho, hc⟩ isSubtype_stop (wpAny_pure (K _ hk)))
theorem py_itemH {Q : Option Value → Shared → Prop} (D : ZipApart z TI TO i1 i2 l1 l2) (hz : IsZipHeld s.heap z TI TO T f) (hT : s.heap.get? T = some oT) (hI : IsPair s.heap TI (.ref i1) (.ref i2))
    (q1 : SIt t1 s.heap i1 l1 k1) (q2 : SIt t2 s.heap i2 l2 k2) (p1 : SSq t1 s.heap l1 xs) (p2 : SSq t2 s.heap l2 ys) (hx : xs[k1]? = some x) (hy : ys[k2]? = some y)
    (K : ∀ h', IsZipHeld h' z TI TO T true → SIt t1 h' i1 l1 (k1 + 1) → SIt t2 h' i2 l2 (k2 + 1) → IsPair h' s.heap.objs.size x y → h'.objs.size = s.heap.objs.size + 1 →
      (∀ c o, c ≠ z → c ≠ i1 → c ≠ i2 → s.heap.get? c = some o → h'.get? c = some o) → Q (some (.ref s.heap.objs.size)) { s with heap := h' }) : wpAny (model prog w) A (pyNext (.ref z)) Q E s := by
  have ty : s.TypeIs (.ref z) "zip" := ⟨_, hz, rfl⟩
  unfold pyNext
  exact wpAny_bind (wpAny_attempt (wpAny_callSpecial?_slot (name := Str.ofString "__next__") ty F.slot_zip_next
    (wpAny_call_entry F.slot_zip_next ty F.entry_zip_next (nx_itemH D hz hT hI q1 q2 p1 p2 hx hy fun h' a1 a3 a4 a5 a6 a7 => wpAny_pure (K h' a1 a3 a4 a5 a6 a7)) (F.args_zip_next_1 _))))
theorem py_endH {Q : Option Value → Shared → Prop} (hh : A.handled = none) (D : ZipApart z TI TO i1 i2 l1 l2) (hz : IsZipHeld s.heap z TI TO T f) (hT : s.heap.get? T = some oT) (hI : IsPair s.heap TI (.ref i1) (.ref i2))
    (q1 : SIt t1 s.heap i1 l1 k1) (q2 : SIt t2 s.heap i2 l2 k2) (p1 : SSq t1 s.heap l1 xs) (p2 : SSq t2 s.heap l2 ys) (hend : xs[k1]? = none ∨ ys[k2]? = none)
    (K : ∀ h', (∀ c o, c ≠ z → c ≠ i1 → c ≠ i2 → s.heap.get? c = some o → h'.get? c = some o) → Q none { s with heap := h' }) : wpAny (model prog w) A (pyNext (.ref z)) Q E s := by
  have ty : s.TypeIs (.ref z) "zip" := ⟨_, hz, rfl⟩
  unfold pyNext
  refine wpAny_bind (wpAny_attempt (wpAny_callSpecial?_slot (name := Str.ofString "__next__") ty F.slot_zip_next
    (wpAny_call_entry F.slot_zip_next ty F.entry_zip_next (nx_endH hh D hz hT hI q1 q2 p1 p2 hend fun h' e hk he => ?_) (F.args_zip_next_1 _))))
  obtain ⟨o, ho, hc⟩ := he
  exact wpAny_bind (wpAny_isInstance (T := "StopIteration") (b := true) ⟨o, ho, hc⟩ isSubtype_stop (wpAny_pure (K _ hk)))
end
/-! ### zip(a, b) made -/
def itName : Bool → String
  | true => "tuple_iterator"
  | false => "list_iterator"
abbrev zp1 (t1 : Bool) (h : Heap) (l1 : Addr) : Heap := h.push { cls := .type (itName t1), data := .fields #[.ref l1, .int 0 0] }
abbrev zp2 (t1 t2 : Bool) (h : Heap) (l1 l2 : Addr) : Heap := (zp1 t1 h l1).push { cls := .type (itName t2), data := .fields #[.ref l2, .int 0 0] }
abbrev zp3 (t1 t2 : Bool) (h : Heap) (l1 l2 : Addr) : Heap := (zp2 t1 t2 h l1 l2).push { cls := .type "tuple", data := .seq #[.ref h.objs.size, .ref (zp1 t1 h l1).objs.size] }
abbrev zp4 (t1 t2 : Bool) (h : Heap) (l1 l2 : Addr) : Heap := (zp3 t1 t2 h l1 l2).push { cls := .type "tuple", data := .seq #[.none, .none] }
abbrev zp5 (t1 t2 : Bool) (h : Heap) (l1 l2 : Addr) : Heap := (zp4 t1 t2 h l1 l2).push { cls := .type "zip", data := .fields #[.none, .bool false, .bool false, .ref (zp2 t1 t2 h l1 l2).objs.size, .ref (zp3 t1 t2 h l1 l2).objs.size] }
theorem meets_new (t1 t2 : Bool) (l1 l2 : Addr) (xs ys : Array Value) :
    Meets (Builtin.«zip.__new__» ⟨[.type "zip", .ref l1, .ref l2], []⟩) (fun _ R s => SSq t1 s.heap l1 xs ∧ SSq t2 s.heap l2 ys ∧ R (.ok (.ret (.ref (zp4 t1 t2 s.heap l1 l2).objs.size))) { s with heap := zp5 t1 t2 s.heap l1 l2 }) :=
  .of_wp fun prog w A R s h => by
    obtain ⟨hp, g, d, tk, os⟩ := s; obtain ⟨hl1, hl2, h⟩ := h
    have hsub := sub_zip
    cases t1 with
    | true =>
      have hL1 : Heap.IsTuple (Shared.heap ⟨hp, g, d, tk, os⟩) l1 xs := hl1
      cases t2 with
      | true =>
        have hL2 : Heap.IsTuple (Shared.heap ⟨hp.push { cls := .type "tuple_iterator", data := .fields #[.ref l1, .int 0 0] }, g, d, tk, os⟩) l2 ys := Heap.IsTuple.push hl2 _
        wp_walk using wpAny_pyIter_tuple hL1, wpAny_pyIter_tuple hL2
        exact ⟨_, rfl, h⟩
      | false =>
        have hL2 : Heap.IsList (Shared.heap ⟨hp.push { cls := .type "tuple_iterator", data := .fields #[.ref l1, .int 0 0] }, g, d, tk, os⟩) l2 ys := Heap.IsList.push hl2 _
        wp_walk using wpAny_pyIter_tuple hL1, wpAny_pyIter_list hL2
        exact ⟨_, rfl, h⟩
    | false =>
      have hL1 : Heap.IsList (Shared.heap ⟨hp, g, d, tk, os⟩) l1 xs := hl1
      cases t2 with
      | true =>
        have hL2 : Heap.IsTuple (Shared.heap ⟨hp.push { cls := .type "list_iterator", data := .fields #[.ref l1, .int 0 0] }, g, d, tk, os⟩) l2 ys := Heap.IsTuple.push hl2 _
        wp_walk using wpAny_pyIter_list hL1, wpAny_pyIter_tuple hL2
        exact ⟨_, rfl, h⟩
      | false =>
        have hL2 : Heap.IsList (Shared.heap ⟨hp.push { cls := .type "list_iterator", data := .fields #[.ref l1, .int 0 0] }, g, d, tk, os⟩) l2 ys := Heap.IsList.push hl2 _
        wp_walk using wpAny_pyIter_list hL1, wpAny_pyIter_list hL2
        exact ⟨_, rfl, h⟩
theorem SIt.new : ∀ (tp : Bool) {h : Heap} {a l : Addr}, h.get? a = some { cls := .type (itName tp), data := .fields #[.ref l, .int 0 0] } → SIt tp h a l 0
  | true, _, _, _, e => ⟨_, e, rfl, rfl⟩
  | false, _, _, _, e => ⟨_, e, rfl, rfl⟩
section
variable {prog : Program} {w : World} {A : Around} {E : Value → Shared → Prop} {s : Shared} {t1 t2 : Bool} {l1 l2 : Addr} {xs ys : Array Value}
theorem call_zip {Q : Value → Shared → Prop} (p1 : SSq t1 s.heap l1 xs) (p2 : SSq t2 s.heap l2 ys)
    (K : ∀ h', IsZip h' (s.heap.objs.size + 4) (s.heap.objs.size + 2) (s.heap.objs.size + 3) .none → IsPair h' (s.heap.objs.size + 2) (.ref s.heap.objs.size) (.ref (s.heap.objs.size + 1)) →
      IsPair h' (s.heap.objs.size + 3) .none .none → SIt t1 h' s.heap.objs.size l1 0 → SIt t2 h' (s.heap.objs.size + 1) l2 0 → h'.objs.size = s.heap.objs.size + 5 →
      (∀ c o, s.heap.get? c = some o → h'.get? c = some o) → Q (.ref (s.heap.objs.size + 4)) { s with heap := h' }) :
    wpAny (model prog w) A (call (.type "zip") [.ref l1, .ref l2]) Q E s := by
  refine callType_new F.called_zip (by decide) (F.typeCall_zip_2 _ _) (F.newCall_zip_2 _ _) (fun obj => F.args_object_init_3 obj _ _) F.entry_zip_new (meets_new t1 t2 l1 l2 xs ys) ⟨p1, p2, ?_⟩
  have z1 : (zp1 t1 s.heap l1).objs.size = s.heap.objs.size + 1 := Heap.size_push ..
  have z2 : (zp2 t1 t2 s.heap l1 l2).objs.size = s.heap.objs.size + 2 := by rw [Heap.size_push, z1]
  have z3 : (zp3 t1 t2 s.heap l1 l2).objs.size = s.heap.objs.size + 3 := by rw [Heap.size_push, z2]
  have z4 : (zp4 t1 t2 s.heap l1 l2).objs.size = s.heap.objs.size + 4 := by rw [Heap.size_push, z3]
  have z5 : (zp5 t1 t2 s.heap l1 l2).objs.size = s.heap.objs.size + 5 := by rw [Heap.size_push, z4]
  have g5 : (zp5 t1 t2 s.heap l1 l2).get? (zp4 t1 t2 s.heap l1 l2).objs.size = some _ := Heap.get?_push_size _ rfl
  have g4 : (zp5 t1 t2 s.heap l1 l2).get? (zp3 t1 t2 s.heap l1 l2).objs.size = some _ := Heap.get?_push_of_some _ (Heap.get?_push_size _ rfl)
  have g3 : (zp5 t1 t2 s.heap l1 l2).get? (zp2 t1 t2 s.heap l1 l2).objs.size = some _ := Heap.get?_push_of_some _ (Heap.get?_push_of_some _ (Heap.get?_push_size _ rfl))
  have g2 : (zp5 t1 t2 s.heap l1 l2).get? (zp1 t1 s.heap l1).objs.size = some _ := Heap.get?_push_of_some _ (Heap.get?_push_of_some _ (Heap.get?_push_of_some _ (Heap.get?_push_size _ rfl)))
  have g1 : (zp5 t1 t2 s.heap l1 l2).get? s.heap.objs.size = some _ := Heap.get?_push_of_some _ (Heap.get?_push_of_some _ (Heap.get?_push_of_some _ (Heap.get?_push_of_some _ (Heap.get?_push_size _ rfl))))
  show _ ∧ _
  rw [z2, z3, z4] at g5
  rw [z1, z2] at g3
  rw [z3] at g4
  rw [z1] at g2
  rw [z4]
  exact ⟨⟨_, g5, rfl⟩, K _ g5 g3 g4 (SIt.new t1 g1) (SIt.new t2 g2) z5 fun c o x =>
    Heap.get?_push_of_some _ (Heap.get?_push_of_some _ (Heap.get?_push_of_some _ (Heap.get?_push_of_some _ (Heap.get?_push_of_some _ x))))⟩
end
/-! ### dict(zip(a, b)) -/
theorem pairZip {prog : Program} {w : World} (t1 t2 : Bool) (z TI TO i1 i2 l1 l2 : Addr) (D : ZipApart z TI TO i1 i2 l1 l2) (xs ys : Array Value) :
    PairArg prog w "zip" z [z, TI, TO, i1, i2, l1, l2] [z, TO, i1, i2] (min xs.size ys.size) (fun i k v => xs[i]? = some k ∧ ys[i]? = some v)
      (fun h => IsZip h z TI TO .none ∧ IsPair h TI (.ref i1) (.ref i2) ∧ (∃ a b, IsPair h TO a b) ∧ SIt t1 h i1 l1 0 ∧ SIt t2 h i2 l2 0 ∧ SSq t1 h l1 xs ∧ SSq t2 h l2 ys) where
  type := fun s ok => ⟨_, ok.1, rfl⟩
  notDict := by decide
  keep := fun h h' ok hk => by
    obtain ⟨hz, hI, ⟨a, b, hO⟩, q1, q2, p1, p2⟩ := ok
    exact ⟨hk _ _ hz, hk _ _ hI, ⟨a, b, hk _ _ hO⟩, q1.at fun o e => hk _ o e, q2.at fun o e => hk _ o e, p1.at fun o e => hk _ o e, p2.at fun o e => hk _ o e⟩
  there := fun h ok b hb => by
    obtain ⟨hz, hI, ⟨a, c, hO⟩, q1, q2, p1, p2⟩ := ok
    obtain ⟨o1, q1, _⟩ := q1.ob
    obtain ⟨o2, q2, _⟩ := q2.ob
    obtain ⟨o3, p1⟩ := p1.ob
    obtain ⟨o4, p2⟩ := p2.ob
    simp only [List.mem_cons, List.not_mem_nil, or_false] at hb
    rcases hb with rfl | rfl | rfl | rfl | rfl | rfl | rfl
    · exact ⟨_, hz⟩
    · exact ⟨_, hI⟩
    · exact ⟨_, hO⟩
    · exact ⟨_, q1⟩
    · exact ⟨_, q2⟩
    · exact ⟨_, p1⟩
    · exact ⟨_, p2⟩
  sub := fun b hb => by simp at hb ⊢; rcases hb with rfl | rfl | rfl | rfl <;> simp
  noKeys := fun A s Q E hA ok h => getAttrOr_miss_zip ok.1 rfl rfl rfl zip_no_keys (by decide +kernel) hA h
  iter := fun A s d Q E hA ok hd hdf h => by
    obtain ⟨hz, hI, ⟨a, b, hO⟩, q1, q2, p1, p2⟩ := ok
    simp only [List.mem_cons, List.not_mem_nil, or_false, not_or] at hdf
    obtain ⟨dz, dI, dO, d1, d2, e1, e2⟩ := hdf
    refine wpAny_pyIter_zip hz (h z [z, TO, i1, i2] (fun i h => IsPair h TI (.ref i1) (.ref i2) ∧ SIt t1 h i1 l1 i ∧ SIt t2 h i2 l2 i ∧ SSq t1 h l1 xs ∧ SSq t2 h l2 ys ∧
      ((IsZip h z TI TO .none ∧ ∃ a b, IsPair h TO a b) ∨ ∃ T f oT, IsZipHeld h z TI TO T f ∧ h.get? T = some oT ∧ T ≠ z ∧ T ≠ i1 ∧ T ≠ i2 ∧ T ≠ d)) s.heap s.toks ?_
      ⟨hI, q1, q2, p1, p2, .inl ⟨hz, a, b, hO⟩⟩ (fun _ _ e => e) fun b hb => .inl hb)
    exact {
      off := fun hm => by
        simp only [List.mem_cons, List.not_mem_nil, or_false] at hm
        rcases hm with e | e | e | e
        · exact dz e
        · exact dO e
        · exact d1 e
        · exact d2 e
      frame := fun i g1 g2 st hk => by
        obtain ⟨hI, q1, q2, p1, p2, hz⟩ := st
        refine ⟨hk _ _ (Ne.symm dI) hI, q1.at fun o e => hk _ o (Ne.symm d1) e, q2.at fun o e => hk _ o (Ne.symm d2) e, p1.at fun o e => hk _ o (Ne.symm e1) e, p2.at fun o e => hk _ o (Ne.symm e2) e, ?_⟩
        rcases hz with ⟨hz, a, b, hO⟩ | ⟨T, f, oT, hz, hT, r1, r2, r3, r4⟩
        · exact .inl ⟨hk _ _ (Ne.symm dz) hz, a, b, hk _ _ (Ne.symm dO) hO⟩
        · exact .inr ⟨T, f, oT, hk _ _ (Ne.symm dz) hz, hk _ _ r4 hT, r1, r2, r3, r4⟩
      item := fun i s1 Q1 E1 hi st hds hQ => by
        obtain ⟨hI, q1, q2, p1, p2, hz⟩ := st
        have ix : i < xs.size := Nat.lt_of_lt_of_le hi (Nat.min_le_left ..)
        have iy : i < ys.size := Nat.lt_of_lt_of_le hi (Nat.min_le_right ..)
        have ex := Array.getElem?_eq_getElem ix
        have ey := Array.getElem?_eq_getElem iy
        have lt : ∀ {c o}, s1.heap.get? c = some o → s1.heap.objs.size ≠ c := fun e => Nat.ne_of_gt (Heap.lt_size e)
        have n1 : s1.heap.objs.size ≠ i1 := let ⟨_, e, _⟩ := q1.ob; lt e
        have n2 : s1.heap.objs.size ≠ i2 := let ⟨_, e, _⟩ := q2.ob; lt e
        rcases hz with ⟨hz, a, b, hO⟩ | ⟨T, f, oT, hz, hT, r1, r2, r3, r4⟩
        · refine py_item D hz hI hO q1 q2 p1 p2 ex ey fun h' a1 a2 a3 a4 a5 a6 hk => ?_
          exact hQ s1.heap.objs.size _ _ h' s1.toks ⟨ex, ey⟩ (.inl ⟨_, a5, rfl, _, rfl⟩)
            ⟨hk _ _ D.TIz D.TITO D.TIi1 D.TIi2 hI, a3, a4, p1.at fun o e => hk _ o D.l1z D.l1TO D.l1i1 D.l1i2 e, p2.at fun o e => hk _ o D.l2z D.l2TO D.l2i1 D.l2i2 e,
              .inr ⟨s1.heap.objs.size, false, _, a1, a5, lt hz, n1, n2, Nat.ne_of_gt hds⟩⟩
            fun c o hc e => hk c o (fun x => hc (by simp [x])) (fun x => hc (by simp [x])) (fun x => hc (by simp [x])) (fun x => hc (by simp [x])) e
        · refine py_itemH D hz hT hI q1 q2 p1 p2 ex ey fun h' a1 a3 a4 a5 a6 hk => ?_
          exact hQ s1.heap.objs.size _ _ h' s1.toks ⟨ex, ey⟩ (.inl ⟨_, a5, rfl, _, rfl⟩)
            ⟨hk _ _ D.TIz D.TIi1 D.TIi2 hI, a3, a4, p1.at fun o e => hk _ o D.l1z D.l1i1 D.l1i2 e, p2.at fun o e => hk _ o D.l2z D.l2i1 D.l2i2 e,
              .inr ⟨T, true, oT, a1, hk _ _ r1 r2 r3 hT, r1, r2, r3, r4⟩⟩
            fun c o hc e => hk c o (fun x => hc (by simp [x])) (fun x => hc (by simp [x])) (fun x => hc (by simp [x])) e
      done := fun s1 Q1 E1 st hQ => by
        obtain ⟨hI, q1, q2, p1, p2, hz⟩ := st
        have hend : xs[min xs.size ys.size]? = none ∨ ys[min xs.size ys.size]? = none := by
          rcases Nat.le_total xs.size ys.size with h | h
          · exact .inl (Array.getElem?_eq_none (by rw [Nat.min_eq_left h]; exact Nat.le_refl _))
          · exact .inr (Array.getElem?_eq_none (by rw [Nat.min_eq_right h]; exact Nat.le_refl _))
        rcases hz with ⟨hz, a, b, hO⟩ | ⟨T, f, oT, hz, hT, r1, r2, r3, r4⟩
        · exact py_end hA D hz hI hO q1 q2 p1 p2 hend fun h' hk => hQ h' s1.toks fun c o hc e => hk c o (fun x => hc (by simp [x])) (fun x => hc (by simp [x])) (fun x => hc (by simp [x])) (fun x => hc (by simp [x])) e
        · exact py_endH hA D hz hT hI q1 q2 p1 p2 hend fun h' hk => hQ h' s1.toks fun c o hc e => hk c o (fun x => hc (by simp [x])) (fun x => hc (by simp [x])) (fun x => hc (by simp [x])) e }
end DZ

set_option Elab.async false
set_option linter.all false
set_option maxRecDepth 100000
set_option maxHeartbeats 4000000
namespace DL
open PySem PySem.Spec PyProof.Rows L2
/-! ### zip(a, b), each a list or a tuple -/
def SqG : Bool → PySem.W.Frag → Hp → Addr → List V → Prop
  | true, K, H, a, xs => SqT K H a xs
  | false, K, H, a, xs => SqL K H a xs
theorem seqG {X : Cx} {pins : List (Addr × Obj)} {σ : L2.St} {H : Hp} {s : Shared} (I : Inv X pins σ H s) : ∀ {t : Bool} {a : Addr} {xs : List V}, SqG t X.K H a xs → ∃ its : List Value, Vals xs its ∧ DZ.SSq t s.heap a its.toArray ∧ xs.length ≤ sizeLine
  | true, _, _, h => I.tuple h
  | false, _, _, h => by
    obtain ⟨its, r, p, z⟩ := I.list h
    exact ⟨its, r, p.isList, z⟩
theorem injG {X : Cx} {pins : List (Addr × Obj)} {σ : L2.St} {H : Hp} {s : Shared} (I : Inv X pins σ H s) : ∀ {t : Bool} {a : Addr} {xs ys : List V}, SqG t X.K H a xs → SqG t X.K H a ys → xs = ys
  | true, _, _, _, h, h' => I.tuple_inj h h'
  | false, _, _, _, h, h' => I.list_inj h h'
/-! ### dict(zip(a, b)) -/
def tDictZip (K : PySem.W.Frag) (ta : TA) : TE := fun σ H Q => ta σ H fun vs H1 => ∃ (t1 t2 : Bool) (a b : Addr) (ks : List Key) (ys : List V), vs = [.ref a, .ref b] ∧ SqG t1 K H1 a (ks.map kV) ∧ SqG t2 K H1 b ys ∧ ks.length = ys.length ∧
  ∀ p, H1 p = none → Q (.ref p) (upd H1 p (.dK (mergeK [] (ks.zip ys))))
theorem kv_zip {P : Program} {w : World} : ∀ {ks : List Key} {ys : List V} {us vs : List Value}, Vals (ks.map kV) us → Vals ys vs → ks.length = ys.length →
    KV (ks.zip ys) (ks.zip vs) ∧ us.length = ks.length ∧ vs.length = ks.length ∧ ∀ (i : Nat) (key v : Value), us[i]? = some key → vs[i]? = some v → ∃ k, (ks.zip vs)[i]? = some (k, v) ∧ (mixKind P w).is k key = true
  | [], [], _, _, .nil, .nil, _ => ⟨.nil, rfl, rfl, fun i key v h => by simp at h⟩
  | [], _ :: _, _, _, _, _, h => by simp at h
  | _ :: _, [], _, _, _, _, h => by simp at h
  | k :: ks, y :: ys, _, _, .cons r t, .cons r' t', h => by
    obtain ⟨a, b, c, d⟩ := kv_zip (P := P) (w := w) t t' (by simpa using h)
    refine ⟨.cons ⟨rfl, r'⟩ a, by simp [b], by simp [c], fun i key v hi hv => ?_⟩
    cases i with
    | zero =>
      simp at hi hv
      subst hi hv
      exact ⟨k, rfl, kV_is r⟩
    | succ i =>
      obtain ⟨k', e1, e2⟩ := d i key v (by simpa using hi) (by simpa using hv)
      exact ⟨k', by simpa using e1, e2⟩
theorem pe_dictZip {X : Cx} {e e2 : Expr} {ta : TA} {p p2 q pos : Pos} (hc : X.calm = true) (hg : Gl X "dict") (hm : X.mg "dict" = none) (hg2 : Gl X "zip") (hm2 : X.mg "zip" = none) (ha : PA X [e, e2] ta)
    (hs : starEach [e, e2] X.env = (false, eval e X.env) :: starEach [e2] X.env := by rfl) (hpl : (backTo q (starEach [e2] X.env)).any (·.1) = false := by rfl) :
    PE X (.Call (.Name "dict" p) [.Call (.Name "zip" p2) [e, e2] [] q] [] pos) (tDictZip X.K ta) := by
  refine ⟨fun pins s σ H Q I h => ?_⟩
  refine Call_ (ld_blt I hg hm PyProof.Rows.boot_dict ?_)
  refine PyProof.Rows.callWith_type1 (PyProof.Rows.args_cons ?_ rfl) rfl rfl
  refine Call_ (ld_blt I hg2 hm2 PyProof.Rows.boot_zip (PyProof.Rows.callWith_type1 (thn (ha.run q pins s σ H _ I h) fun us s1 ⟨vs, H1, I1, r1, q1⟩ => ?_) hs hpl))
  obtain ⟨t1, t2, a, b, ks, ys, ex, sx, sy, hl, q1⟩ := q1
  subst ex
  cases r1 with
  | cons r rr =>
    cases rr with
    | cons r' rr =>
      cases rr
      cases r
      cases r'
      obtain ⟨its, rv, p1, z1⟩ := seqG I1 sx
      obtain ⟨its2, rv2, p2', z2⟩ := seqG I1 sy
      obtain ⟨o1, ho1⟩ := p1.ob
      obtain ⟨o2, ho2⟩ := p2'.ob
      refine DZ.call_zip p1 p2' fun h' hz hI hO h1 h2 hsz hk => PyProof.Rows.args_nil ?_
      obtain ⟨kv, l1, l2, hkv⟩ := kv_zip (P := X.prog) (w := X.w) rv rv2 hl
      have D := PySem.W.ktu_apart s1.heap.objs.size a b (Heap.lt_size ho1) (Heap.lt_size ho2)
      have hmin : min its.toArray.size its2.toArray.size = ks.length := by simp [l1, l2]
      refine PySem.call_dict_pairs (knd := mixKind X.prog X.w) (kvs := ks.zip its2) (DZ.pairZip t1 t2 _ _ _ _ _ a b D its.toArray its2.toArray) (I1.ok.hd hc) ⟨hz, hI, ⟨_, _, hO⟩, h1, h2, p1.at fun o e => hk _ o e, p2'.at fun o e => hk _ o e⟩
        ⟨by rw [hmin]; simp [l2], fun i key v hr => hkv i key v (by simpa using hr.1) (by simpa using hr.2)⟩ (by rw [hmin]; rw [List.length_map] at z1; exact z1) fun h3 tk hd' k3 => ?_
      have big : s1.heap.objs.size ≤ h'.objs.size := by rw [hsz]; omega
      have kp : ∀ b o, s1.heap.get? b = some o → h3.get? b = some o := fun b o e => k3 b o (fun hm => by
        have lt : b < s1.heap.objs.size := Heap.lt_size e
        simp only [List.mem_cons, List.not_mem_nil, or_false] at hm
        rcases hm with h | h | h | h <;> rw [h] at lt <;> exact absurd lt (Nat.not_lt.mpr (by first | exact Nat.le_refl _ | exact Nat.le_add_right _ _))) (hk b o e)
      have hm : (h'.objs.size == sysModules) = false := beq_eq_false_iff_ne.mpr (Nat.ne_of_gt (Nat.lt_of_lt_of_le I1.big big))
      have hlen : (mergeK [] (ks.zip ys)).length ≤ sizeLine := by
        refine Nat.le_trans (length_mergeK (ks.zip ys) []) ?_
        rw [List.length_nil, Nat.zero_add]
        simp
        rw [List.length_map] at z1
        omega
      exact ⟨.ref h'.objs.size, upd H1 h'.objs.size (.dK (mergeK [] (ks.zip ys))), I1.laid (t' := tk) kp big (show ObjOk X.prog X.w _ _ _ (.dK (mergeK [] (ks.zip ys))) from ⟨hlen, hm, merged [] (ks.zip its2), KV.merge kv .nil, hd'⟩), rfl, q1 _ (I1.hok.fresh big)⟩
end DL

set_option Elab.async false
set_option linter.all false
set_option maxRecDepth 100000
set_option maxHeartbeats 4000000
namespace DL
open PySem PySem.Spec PyProof.Rows L2
theorem R1.seqG {K : Kf} {F H : Hp} {v : V} {d : D} {ds : List D} (h : R1 K F H v d) (e : seqD d = some ds) : ∃ t a vs, v = .ref a ∧ SqG t K H a vs ∧ RA K F vs ds := by
  obtain ⟨a, vs, rfl, hs, r⟩ := h.seq e
  rcases hs with hs | hs
  · exact ⟨false, a, vs, rfl, hs, r⟩
  · exact ⟨true, a, vs, rfl, hs, r⟩
theorem R.seqG {K : Kf} {F : Hp} {v : V} {d : D} {ds : List D} (h : R K F v d) (e : seqD d = some ds) : ∃ t a vs, v = .ref a ∧ (∀ F2 H, Le F F2 → Sub F2 H → SqG t K H a vs) ∧ RA K F vs ds := by
  cases h with
  | tup fa ra => cases e; exact ⟨true, _, _, rfl, fun F2 H l s => .of (s.nd (l _ _ fa) rfl), ra⟩
  | tpl fa _ ra => cases e; exact ⟨true, _, _, rfl, fun F2 H l s => .inl (.inr ⟨_, s.nd (l _ _ fa) rfl⟩), ra⟩
  | lst fa ra => cases e; exact ⟨false, _, _, rfl, fun F2 H l s => .of (s.nd (l _ _ fa) rfl), ra⟩
  | scr fa => cases e; exact ⟨false, _, _, rfl, fun F2 H l s => s.sq (le_sq l fa), RA.of_ints _⟩
  | _ => cases e
/-- what is walked is frozen -/
def mIF (f : List D → Option (List D)) (ma : MA) : MI := fun ρ => (ma ρ).bind fun p => (frs p.1 p.2).bind fun q => (f q.1).bind fun xs => some (xs, q.2)
def zipI : List D → Option (List D)
  | [a, b] => (seqD a).bind fun xs => (seqD b).bind fun ys => some (List.zipWith (fun d e => D.tup [d, e]) xs ys)
  | _ => none
section
variable {X : Cx} {tg e e2 e3 : Expr} {m : ME} {ma : MA} {p p2 q pos tpos : Pos} {elts : List Expr} {kk : Nat}
/-- a dict of keys and values -/
def kMerge (kv : List (D × D)) : List (Key × D) → List (D × D)
  | [] => kv
  | (k, d) :: r => kMerge (kPut keyOf kv (keyD k) k d) r
theorem RK.merge {K : Kf} {F : Hp} : ∀ {ks : List Key} {vs : List V} {ds : List D} {kvs : List (Key × V)} {kv : List (D × D)}, RA K F vs ds → RK K F kvs kv → RK K F (mergeK kvs (ks.zip vs)) (kMerge kv (ks.zip ds))
  | [], _, _, _, _, _, r => by simpa [mergeK, kMerge] using r
  | _ :: _, _, _, _, _, .nil, r => by simpa [mergeK, kMerge] using r
  | k :: ks, _, _, kvs, kv, .cons h t, r => by
    have := RK.merge (ks := ks) t (RK.put r k h)
    simpa [mergeK, kMerge] using this
def dZip : D → D → Option O1 := fun a b => (seqD a).bind fun xs => (seqD b).bind fun ys => (keysL xs).bind fun ks => if ks.length = ys.length then some (.newK (kMerge [] (ks.zip ys))) else none
def mDictZip (ma : MA) : MO := mCB (f2 dZip) ma
theorem do_dictZip (hc : X.calm = true) (hg : Gl X "dict") (hm : X.mg "dict" = none) (hg2 : Gl X "zip") (hm2 : X.mg "zip" = none) (ha : DA X [e, e2] ma) (hs : starEach [e, e2] X.env = (false, eval e X.env) :: starEach [e2] X.env := by rfl) (hpl : (backTo q (starEach [e2] X.env)).any (·.1) = false := by rfl) :
    DO X (.Call (.Name "dict" p) [.Call (.Name "zip" p2) [e, e2] [] q] [] pos) (mDictZip ma) := peImp (pe_dictZip hc hg hm hg2 hm2 ha hs hpl) fun σ H Q ⟨G, F, ρ, I, o, ρ', e, k⟩ => by
  obtain ⟨⟨rs, ρ1⟩, e1, e⟩ := Option.bind_eq_some_iff.mp e
  obtain ⟨xs, e2, e⟩ := Option.bind_eq_some_iff.mp e
  obtain ⟨o1, e3, e⟩ := Option.bind_eq_some_iff.mp e
  cases e
  refine ⟨G, F, ρ, I, rs, _, e1, fun F1 H1 vs l1 I1 k1 => ?_⟩
  have a := I1.vws k1 e2
  match xs, a, e3 with
  | [d1, d2], a, e3 =>
    obtain ⟨x, y, rfl, a1, a2⟩ := a.two
    obtain ⟨as, g1, e3⟩ := Option.bind_eq_some_iff.mp (show (seqD d1).bind _ = some _ from e3)
    obtain ⟨bs, g2, e3⟩ := Option.bind_eq_some_iff.mp e3
    obtain ⟨ks, g3, e3⟩ := Option.bind_eq_some_iff.mp e3
    split at e3
    · rename_i hl
      cases e3
      obtain ⟨t1, p1, v1, rfl, s1, w1⟩ := a1.seqG g1
      obtain ⟨t2, p2, v2, rfl, s2, w2⟩ := a2.seqG g2
      have ek := keysL_eq g3
      subst ek
      have ev := w1.keys
      subst ev
      exact ⟨t1, t2, p1, p2, ks, v2, rfl, s1, s2, by rw [hl, w2.length], fun p hp => k F1 H1 l1 I1 p _ hp (RK.merge w2 .nil)⟩
    · cases e3
/-- dict(x), x a list of pairs, or a dict -/
def pairsL : List D → Option (List (Key × D))
  | [] => some []
  | .tup [a, b] :: r => (keyOf a).bind fun k => (pairsL r).bind fun t => some ((k, b) :: t)
  | _ => none
def dDict : D → Option O1
  | .lst ds => (pairsL ds).bind fun ps => some (.newK (kMerge [] ps))
  | .dic kv => some (.newK kv)
  | _ => none
theorem pairs_of_RA {K : Kf} {F H : Hp} (s : Sub F H) : ∀ {ds : List D} {vs : List V} {ps : List (Key × D)}, pairsL ds = some ps → RA K F vs ds → ∃ (as : List Addr) (kvs : List (Key × V)), vs = as.map V.ref ∧ Paired (fun p kv => SqT K H p [kV kv.1, kv.2]) as kvs ∧
    ∀ kvs0 kv0, RK K F kvs0 kv0 → RK K F (mergeK kvs0 kvs) (kMerge kv0 ps)
  | [], _, ps, e, .nil => by cases e; exact ⟨[], [], rfl, .nil, fun _ _ h => by simpa [mergeK, kMerge] using h⟩
  | d :: ds, _, ps, e, .cons r t => by
    unfold pairsL at e
    split at e
    · cases ‹_ :: _ = []›
    · rename_i a b rr he
      cases he
      obtain ⟨k, e1, e⟩ := Option.bind_eq_some_iff.mp e
      obtain ⟨tl, e2, e⟩ := Option.bind_eq_some_iff.mp e
      cases e
      obtain ⟨as, kvs, rfl, hp, hm⟩ := pairs_of_RA s e2 t
      have ek := keyOf_eq e1
      subst ek
      cases r with
      | tup fa ra =>
        cases ra with
        | cons r1 rt =>
          cases rt with
          | cons r2 rt =>
            cases rt
            have := r1.key
            subst this
            exact ⟨_ :: as, (k, _) :: kvs, rfl, .cons (.of (s.nd fa rfl)) hp, fun kvs0 kv0 h => by
              have := hm _ _ (RK.put h k r2)
              simpa [mergeK, kMerge] using this⟩
    · cases e
theorem do_dict (hc : X.calm = true) (hg : Gl X "dict") (hm : X.mg "dict" = none) (ha : DA X [e] ma) (he : starEach [e] X.env = [(false, eval e X.env)] := by rfl) (hpl : (backTo pos (starEach [] X.env)).any (·.1) = false := by rfl) :
    DO X (.Call (.Name "dict" p) [e] [] pos) (mCB (f1 dDict) ma) :=
  do_callTy ((call_dictP hc).or call_dictD) (call1 fun F H x d o Q s a eo k => by
    cases d with
    | lst ds =>
      obtain ⟨ps, e1, eo⟩ := Option.bind_eq_some_iff.mp (show (pairsL ds).bind _ = some o from eo)
      cases eo
      obtain ⟨q, vs, rfl, h1, r⟩ := a
      obtain ⟨as, kvs, rfl, hp, hm⟩ := pairs_of_RA s e1 r
      exact .inl ⟨q, as, kvs, rfl, .of h1, hp, fun p hp => k p _ hp (hm _ _ .nil)⟩
    | dic kv => cases eo; obtain ⟨q, kvs, rfl, h1, r⟩ := a; exact .inr ⟨q, kvs, rfl, h1, fun p hp => k p _ hp r⟩
    | _ => cases eo) hg hm PyProof.Rows.boot_dict ha (by decide) (by decide) he hpl
end
end DL

set_option Elab.async false
set_option linter.all false
set_option maxRecDepth 100000
set_option maxHeartbeats 4000000
/-! set(xs), xs of ints and texts -/
namespace DS
open PySem PySem.Spec PyProof.Rows L2
theorem lawK : LawfulBEq Key where
  eq_of_beq {a b} h := by
    cases a with
    | inl i => cases b with
      | inl j => exact congrArg Sum.inl (eq_of_beq (show (i == j) = true from h))
      | inr y => cases h
    | inr x => cases b with
      | inl j => cases h
      | inr y => exact congrArg Sum.inr (eq_of_beq (show (x == y) = true from h))
  rfl {a} := by
    cases a with
    | inl i => exact (beq_self_eq_true i : (i == i) = true)
    | inr x => exact (beq_self_eq_true x : (x == x) = true)
/-- each thing once, by its first place -/
def ddp (ks : List Key) : List Key := ks.foldl (fun acc k => if acc.any (· == k) = true then acc else acc ++ [k]) []
theorem ddp_snoc (ks : List Key) (k : Key) : ddp (ks ++ [k]) = if (ddp ks).any (· == k) = true then ddp ks else ddp ks ++ [k] := by
  unfold ddp; rw [List.foldl_append]; rfl
theorem ddp_mem (ks : List Key) (k : Key) : k ∈ ddp ks ↔ k ∈ ks := by
  haveI := lawK
  suffices h : ∀ n, ∀ ks : List Key, ks.length = n → (k ∈ ddp ks ↔ k ∈ ks) from h _ ks rfl
  intro n
  induction n with
  | zero => intro ks h; rw [List.eq_nil_of_length_eq_zero h]; simp [ddp]
  | succ n ih =>
    intro ks h
    have e : ks = ks.dropLast ++ [ks.getLast (by intro e; rw [e] at h; simp at h)] := (List.dropLast_concat_getLast _).symm
    generalize ks.getLast _ = x at e
    have hl : ks.dropLast.length = n := by simp [h]
    generalize ks.dropLast = ys at e hl
    subst e
    have := ih ys hl
    rw [ddp_snoc]
    split
    · rename_i hc
      rw [this]
      simp only [List.mem_append, List.mem_singleton]
      constructor
      · exact Or.inl
      · rintro (h | h)
        · exact h
        · subst h
          obtain ⟨y, hy, e⟩ := List.any_eq_true.mp hc
          rw [beq_iff_eq] at e
          subst e
          exact this.mp hy
    · simp [this]
theorem ddp_any (ks : List Key) (k : Key) : (ddp ks).any (· == k) = ks.any (· == k) := by
  haveI := lawK
  rw [Bool.eq_iff_iff, List.any_eq_true, List.any_eq_true]
  simp [ddp_mem]
theorem ddp_le (ks : List Key) : (ddp ks).length ≤ ks.length := by
  suffices h : ∀ n, ∀ ks : List Key, ks.length = n → (ddp ks).length ≤ n from h _ ks rfl
  intro n
  induction n with
  | zero => intro ks h; rw [List.eq_nil_of_length_eq_zero h]; simp [ddp]
  | succ n ih =>
    intro ks h
    have e : ks = ks.dropLast ++ [ks.getLast (by intro e; rw [e] at h; simp at h)] := (List.dropLast_concat_getLast _).symm
    generalize ks.getLast _ = x at e
    have hl : ks.dropLast.length = n := by simp [h]
    generalize ks.dropLast = ys at e hl
    subst e
    have := ih ys hl
    rw [ddp_snoc]
    split
    · omega
    · simp; omega
def KeysAre (prog : Program) (w : World) (us : List Value) (ks : List Key) : Prop := us.length = ks.length ∧ ∀ (i : Nat) (v : Value), us[i]? = some v → (mixKind prog w).is (ks.getD i (.inl 0)) v = true ∧ v.scannable = true
section
variable {prog : Program} {w : World} {A : Around} {R : Result → Shared → Prop} {I : Addr} {fp wr : List Addr} {G : Array GenState → Array GenState → Prop} {n : Nat} {P : Nat → Value → Prop} {St : Nat → Shared → Prop}
theorem loopK (W : WalksS prog w A.in1 I fp wr G n P St) (S : Addr) (hSf : S ∉ fp) (ks : List Key) (hsz : ks.length = n) (hn1 : ks.length + 1 < scanBound)
    (hval : ∀ i v, P i v → (mixKind prog w).is (ks.getD i (.inl 0)) v = true ∧ v.scannable = true) :
    ∀ (k i : Nat) (s : Shared), n - i = k → i ≤ n → St i s →
      s.heap.SetOf (mixKind prog w) S (fun k' => (ks.take i).any (· == k')) (ddp (ks.take i)).length →
      (∀ s', Moved (S :: wr) G s s' → s'.heap.SetOf (mixKind prog w) S (fun k' => (ks.take n).any (· == k')) (ddp (ks.take n)).length → R (.ok (.ret .none)) s') →
      codeAny (model prog w) A (.builtin "set.update.loop" ⟨[.ref S, .ref I], []⟩) R s := by
  haveI := lawK
  have hSw : S ∉ wr := fun h => hSf (W.sub _ h)
  have hsub : ∀ b ∈ wr, b ∈ S :: wr := fun b hb => List.mem_cons_of_mem _ hb
  intro k
  induction k with
  | zero =>
    intro i s hk hi hst hS hR
    have hin : i = n := by omega
    subst hin
    refine codeAny_builtin PyProof.Rows.F.entry_set_update_loop ?_
    rw [Around.under_plainId PyProof.Rows.F.plain_set_update_loop _]
    show wpAny _ A.in1 (pyNext (.ref I) >>= _) _ _ s
    refine wpAny_bind (W.done s _ _ hst fun s' hm => ?_)
    show wpAny _ A.in1 (ret Value.none) _ _ s'
    refine wpAny_pure (hR s' (hm.mono hsub) ?_)
    obtain ⟨o, es, ep, t, ho, rest⟩ := hS
    exact ⟨o, es, ep, t, hm.heap S _ hSw ho, rest⟩
  | succ k ih =>
    intro i s hk hi hst hS hR
    have hlt : i < n := by omega
    refine codeAny_builtin PyProof.Rows.F.entry_set_update_loop ?_
    rw [Around.under_plainId PyProof.Rows.F.plain_set_update_loop _]
    show wpAny _ A.in1 (pyNext (.ref I) >>= _) _ _ s
    refine wpAny_bind (W.item i s _ _ hlt hst fun v s' hP hst' hm => ?_)
    obtain ⟨hk1, hsc⟩ := hval i v hP
    have hS' : s'.heap.SetOf (mixKind prog w) S (fun k' => (ks.take i).any (· == k')) (ddp (ks.take i)).length := by
      obtain ⟨o, es, ep, tb, ho, rest⟩ := hS
      exact ⟨o, es, ep, tb, hm.heap S _ hSw ho, rest⟩
    show wpAny _ A.in1 (holding [v] (setAdd S v) >>= _) _ _ s'
    refine wpAny_bind (wpAny_holding ?_)
    unfold setAdd
    refine wpAny_holding ?_
    refine wpAny_bind ((mixKind prog w).pyHash (k := ks.getD i (.inl 0)) hk1 ?_)
    have room : (ddp (ks.take i)).length + 1 < scanBound := by
      have := ddp_le (ks.take i)
      have : (ks.take i).length ≤ ks.length := by simp; omega
      omega
    refine wpAny_setAddHashed_of (knd := mixKind prog w) (s := { s' with toks := s'.toks + 1 }) hk1 hsc hS' room fun h' hsb hS2 => ?_
    have et : ks.take (i + 1) = ks.take i ++ [ks.getD i (.inl 0)] := by
      have : i < ks.length := by omega
      rw [List.take_add_one]
      simp [this]
    have hSi : h'.SetOf (mixKind prog w) S (fun k' => (ks.take (i + 1)).any (· == k')) (ddp (ks.take (i + 1))).length := by
      refine PyProof.Rows.SetOf_congr hS2 (fun k' => ?_) ?_
      · rw [et, List.any_append]
        congr 1
        simp [eq_comm, Bool.beq_eq_decide_eq]
      · rw [et, ddp_snoc, ddp_any]
        split
        · rfl
        · simp
    refine wpAny_pure ⟨plainId_quiet PyProof.Rows.F.plain_set_update_loop _, ih (i + 1) _ (by omega) hlt (W.frame _ s' _ _ hst' (Nat.le_succ _) fun b hb o e => ?_) hSi fun s'' hm'' hS'' => ?_⟩
    · rw [hsb.2 b (fun h : b = S => hSf (by rw [← h]; exact hb))]; exact e
    · refine hR s'' (Moved.trans W.gtrans ((hm.mono hsub).then_heap (Nat.le_succ _) fun b o hb e => ?_) hm'') hS''
      rw [hsb.2 b (fun h : b = S => hb (by rw [h]; exact List.mem_cons_self))]; exact e
end
end DS

set_option Elab.async false
set_option linter.all false
set_option maxRecDepth 100000
set_option maxHeartbeats 4000000
namespace DS
open PySem PySem.Spec PyProof.Rows L2
section
variable {prog : Program} {w : World} {A : Around} {E : Value → Shared → Prop} {s : Shared}

theorem set_of_list {l : Addr} {items : Array Value} {ks : List Key} {Q : Value → Shared → Prop} (hh : A.handled = none) (hl : s.heap.IsList l items) (hi : KeysAre prog w items.toList ks) (hb : ks.length + 1 < scanBound)
    (K : ∀ (h' : Heap) (tk : Nat), h'.SetOf (mixKind prog w) s.heap.objs.size (fun k' => ks.any (· == k')) (ddp ks).length → (∀ b o, b < s.heap.objs.size → s.heap.get? b = some o → h'.get? b = some o) → Q (.ref s.heap.objs.size) { s with heap := h', toks := tk }) :
    wpAny (model prog w) A (call (.type "set") [.ref l]) Q E s := by
  haveI := lawK
  obtain ⟨c, tl, hmro⟩ := PySem.F.called_set.mro
  have made := PySem.F.called_set.made
  have subs := PySem.F.called_set.sub
  refine wpAny_call (codeAny_of_tree ?_)
  show wpAny _ _ (callAny (.type "set") _) _ _ _
  refine wpAny_pure ⟨Code.quiet_builtin _ (by decide +kernel), codeAny_builtin PySem.F.entry_type_call ?_⟩
  rw [Around.under_plain (weight_type_call_type "set" [.ref l] []) rfl]
  have nt := PySem.F.called_set.notType
  have cc := PySem.F.called_set.canCreate
  have tc := PySem.F.typeCall_set_1 (.ref l)
  repeat (any_goals (first | assumption | wp_step))
  refine codeAny_mono (code_set_new_1 (.ref l) (E := E) (Q₁ := fun obj s1 => ∃ led : Bool, obj = .ref s.heap.objs.size ∧ s1 = { s with heap := s.heap.push { cls := .type "set", dict := none, data := .set #[] 0 (.fresh 0 0 led) } }) fun led => ⟨led, rfl, rfl⟩) fun r s1 hr => ?_
  cases r with
  | error e => exact hr
  | ok fl =>
    cases fl with
    | ret obj =>
      obtain ⟨led, rfl, rfl⟩ := hr
      have gS : (s.heap.push { cls := .type "set", dict := none, data := .set #[] 0 (.fresh 0 0 led) }).get? s.heap.objs.size = some { cls := .type "set", dict := none, data := .set #[] 0 (.fresh 0 0 led) } := Heap.get?_push_size _ rfl
      have tS : Shared.TypeIs { s with heap := s.heap.push { cls := .type "set", dict := none, data := .set #[] 0 (.fresh 0 0 led) } } (.ref s.heap.objs.size) "set" := ⟨_, gS, rfl⟩
      have li := PySem.F.called_set.init.lookup
      have bi := PySem.F.called_set.init.bind (.ref s.heap.objs.size)
      repeat (any_goals (first | assumption | wp_step))
      refine codeAny_mono (codeAny_call_builtin (R := wants (fun r s2 => r = .none ∧ ∃ h' tk, s2 = { s with heap := h', toks := tk } ∧ h'.SetOf (mixKind prog w) s.heap.objs.size (fun k' => (ks.take items.size).any (· == k')) (ddp (ks.take items.size)).length ∧
          (∀ b o, b < s.heap.objs.size → s.heap.get? b = some o → h'.get? b = some o)) E) PySem.F.called_set.init.plain PySem.F.entry_set_init (check_set_init_1 tS ?_)) fun r2 s2 hr2 => ?_
      · obtain ⟨ol, hol, hcl, nl, hdl⟩ := hl
        obtain ⟨ocls, odict, odata, oslots⟩ := ol
        simp only at hcl hdl
        subst hcl; subst hdl
        have hol1 : (s.heap.push { cls := .type "set", dict := none, data := .set #[] 0 (.fresh 0 0 led) }).get? l = some { cls := .type "list", dict := odict, data := .seq items nl, slots := oslots } := Heap.get?_push_of_some _ hol
        have sls := PySem.F.sub_list_set
        have slf := PySem.F.sub_list_frozenset
        have hne : (Value.type "list" == Value.type "dict") = false := by decide
        have L1 : (s.heap.push { cls := .type "set", dict := none, data := .set #[] 0 (.fresh 0 0 led) }).IsList l items := ⟨_, hol1, rfl, nl, rfl⟩
        unfold Builtin.«set.__init__» noKeywords Builtin.Frozenset.updateFrom
        generalize hPI : pyIter = PI
        wp_walk
        subst hPI
        refine wpAny_pyIter_list L1 ?_
        refine wpAny_bind (wpAny_runValue ?_)
        have lS : l < s.heap.objs.size := Heap.lt_size hol
        have hh3 : A.in1.in1.in1.handled = none := by simp [hh]
        have neI : l ≠ (s.heap.push { cls := .type "set", dict := none, data := .set #[] 0 (.fresh 0 0 led) }).objs.size := by
          rw [Heap.size_push]; exact Nat.ne_of_lt (Nat.lt_succ_of_lt lS)
        have nSf : s.heap.objs.size ∉ [(s.heap.push { cls := .type "set", dict := none, data := .set #[] 0 (.fresh 0 0 led) }).objs.size, l] := by
          rw [Heap.size_push]; simp only [List.mem_cons, List.mem_singleton, List.not_mem_nil, or_false, not_or]
          exact ⟨Nat.ne_of_lt (Nat.lt_succ_self _), Nat.ne_of_gt lS⟩
        have hsz : ks.length = items.size := by rw [← hi.1, Array.length_toList]
        refine loopK ((Walks.list hh3 _ l neI items).toS) s.heap.objs.size nSf ks hsz hb (fun i v hv => hi.2 i v (by rw [Array.getElem?_toList]; exact hv)) (items.size - 0) 0 _ (by omega) (Nat.zero_le _)
          ⟨⟨_, Heap.get?_push_size _ rfl, rfl, rfl⟩, (L1.push _)⟩ ?hS0 ?hR
        case hS0 =>
          have get0 : ((s.heap.push { cls := .type "set", dict := none, data := .set #[] 0 (.fresh 0 0 led) }).push { cls := .type "list_iterator", data := .fields #[.ref l, .int 0 0] }).get? s.heap.objs.size
              = some { cls := .type "set", dict := none, data := .set #[] 0 (.fresh 0 0 led) } := Heap.get?_push_of_some _ gS
          exact PyProof.Rows.SetOf_congr ((PyProof.Rows.setObjOf_fresh (knd := mixKind prog w) led).setOf get0 (by unfold scanBound; omega)) (fun _ => rfl) rfl
        case hR =>
          intro s' hm hS'
          obtain ⟨h', g', d', tk', os'⟩ := s'
          have eg : g' = s.gens := hm.gens
          have ed : d' = s.drawn := hm.drawn
          have eo : os' = s.os := hm.os
          subst eg; subst ed; subst eo
          show wpAny _ _ _ _ _ _
          refine wpAny_pure ?_
          show wpAny _ _ (ret Value.none) _ _ _
          refine wpAny_pure ⟨rfl, h', tk', rfl, hS', fun b o hb e => ?_⟩
          have n1 : b ≠ s.heap.objs.size := Nat.ne_of_lt hb
          have n2 : b ≠ (s.heap.push { cls := .type "set", dict := none, data := .set #[] 0 (.fresh 0 0 led) }).objs.size := by
            rw [Heap.size_push]; exact Nat.ne_of_lt (Nat.lt_succ_of_lt hb)
          exact hm.heap b o (by simp only [List.mem_cons, List.mem_singleton, List.not_mem_nil, or_false, not_or]; exact ⟨n1, n2⟩) (Heap.get?_push_of_some _ (Heap.get?_push_of_some _ e))
      · have hsz : ks.take items.size = ks := by rw [show items.size = ks.length by rw [← hi.1, Array.length_toList], List.take_length]
        cases r2 with
        | error e => exact hr2
        | ok f2 =>
          cases f2 with
          | ret r =>
            obtain ⟨rfl, h', tk, rfl, hS', hk'⟩ := hr2
            rw [hsz] at hS'
            repeat (any_goals (first | assumption | wp_step))
            exact K _ _ hS' hk'
          | _ => exact hr2.elim
    | _ => exact hr.elim

theorem set_of_tuple {l : Addr} {items : Array Value} {ks : List Key} {Q : Value → Shared → Prop} (hh : A.handled = none) (hl : s.heap.IsTuple l items) (hi : KeysAre prog w items.toList ks) (hb : ks.length + 1 < scanBound)
    (K : ∀ (h' : Heap) (tk : Nat), h'.SetOf (mixKind prog w) s.heap.objs.size (fun k' => ks.any (· == k')) (ddp ks).length → (∀ b o, b < s.heap.objs.size → s.heap.get? b = some o → h'.get? b = some o) → Q (.ref s.heap.objs.size) { s with heap := h', toks := tk }) :
    wpAny (model prog w) A (call (.type "set") [.ref l]) Q E s := by
  haveI := lawK
  obtain ⟨c, tl, hmro⟩ := PySem.F.called_set.mro
  have made := PySem.F.called_set.made
  have subs := PySem.F.called_set.sub
  refine wpAny_call (codeAny_of_tree ?_)
  show wpAny _ _ (callAny (.type "set") _) _ _ _
  refine wpAny_pure ⟨Code.quiet_builtin _ (by decide +kernel), codeAny_builtin PySem.F.entry_type_call ?_⟩
  rw [Around.under_plain (weight_type_call_type "set" [.ref l] []) rfl]
  have nt := PySem.F.called_set.notType
  have cc := PySem.F.called_set.canCreate
  have tc := PySem.F.typeCall_set_1 (.ref l)
  repeat (any_goals (first | assumption | wp_step))
  refine codeAny_mono (code_set_new_1 (.ref l) (E := E) (Q₁ := fun obj s1 => ∃ led : Bool, obj = .ref s.heap.objs.size ∧ s1 = { s with heap := s.heap.push { cls := .type "set", dict := none, data := .set #[] 0 (.fresh 0 0 led) } }) fun led => ⟨led, rfl, rfl⟩) fun r s1 hr => ?_
  cases r with
  | error e => exact hr
  | ok fl =>
    cases fl with
    | ret obj =>
      obtain ⟨led, rfl, rfl⟩ := hr
      have gS : (s.heap.push { cls := .type "set", dict := none, data := .set #[] 0 (.fresh 0 0 led) }).get? s.heap.objs.size = some { cls := .type "set", dict := none, data := .set #[] 0 (.fresh 0 0 led) } := Heap.get?_push_size _ rfl
      have tS : Shared.TypeIs { s with heap := s.heap.push { cls := .type "set", dict := none, data := .set #[] 0 (.fresh 0 0 led) } } (.ref s.heap.objs.size) "set" := ⟨_, gS, rfl⟩
      have li := PySem.F.called_set.init.lookup
      have bi := PySem.F.called_set.init.bind (.ref s.heap.objs.size)
      repeat (any_goals (first | assumption | wp_step))
      refine codeAny_mono (codeAny_call_builtin (R := wants (fun r s2 => r = .none ∧ ∃ h' tk, s2 = { s with heap := h', toks := tk } ∧ h'.SetOf (mixKind prog w) s.heap.objs.size (fun k' => (ks.take items.size).any (· == k')) (ddp (ks.take items.size)).length ∧
          (∀ b o, b < s.heap.objs.size → s.heap.get? b = some o → h'.get? b = some o)) E) PySem.F.called_set.init.plain PySem.F.entry_set_init (check_set_init_1 tS ?_)) fun r2 s2 hr2 => ?_
      · obtain ⟨ol, hol, hcl, nl, hdl⟩ := hl
        obtain ⟨ocls, odict, odata, oslots⟩ := ol
        simp only at hcl hdl
        subst hcl; subst hdl
        have hol1 : (s.heap.push { cls := .type "set", dict := none, data := .set #[] 0 (.fresh 0 0 led) }).get? l = some { cls := .type "tuple", dict := odict, data := .seq items nl, slots := oslots } := Heap.get?_push_of_some _ hol
        have sls := PySem.F.sub_tuple_set
        have slf := PySem.F.sub_tuple_frozenset
        have hne : (Value.type "tuple" == Value.type "dict") = false := by decide
        have L1 : (s.heap.push { cls := .type "set", dict := none, data := .set #[] 0 (.fresh 0 0 led) }).IsTuple l items := ⟨_, hol1, rfl, nl, rfl⟩
        unfold Builtin.«set.__init__» noKeywords Builtin.Frozenset.updateFrom
        generalize hPI : pyIter = PI
        wp_walk
        subst hPI
        refine wpAny_pyIter_tuple L1 ?_
        refine wpAny_bind (wpAny_runValue ?_)
        have lS : l < s.heap.objs.size := Heap.lt_size hol
        have hh3 : A.in1.in1.in1.handled = none := by simp [hh]
        have neI : l ≠ (s.heap.push { cls := .type "set", dict := none, data := .set #[] 0 (.fresh 0 0 led) }).objs.size := by
          rw [Heap.size_push]; exact Nat.ne_of_lt (Nat.lt_succ_of_lt lS)
        have nSf : s.heap.objs.size ∉ [(s.heap.push { cls := .type "set", dict := none, data := .set #[] 0 (.fresh 0 0 led) }).objs.size, l] := by
          rw [Heap.size_push]; simp only [List.mem_cons, List.mem_singleton, List.not_mem_nil, or_false, not_or]
          exact ⟨Nat.ne_of_lt (Nat.lt_succ_self _), Nat.ne_of_gt lS⟩
        have hsz : ks.length = items.size := by rw [← hi.1, Array.length_toList]
        refine loopK ((Walks.tuple hh3 _ l neI items).toS) s.heap.objs.size nSf ks hsz hb (fun i v hv => hi.2 i v (by rw [Array.getElem?_toList]; exact hv)) (items.size - 0) 0 _ (by omega) (Nat.zero_le _)
          ⟨⟨_, Heap.get?_push_size _ rfl, rfl, rfl⟩, (L1.push _)⟩ ?hS0 ?hR
        case hS0 =>
          have get0 : ((s.heap.push { cls := .type "set", dict := none, data := .set #[] 0 (.fresh 0 0 led) }).push { cls := .type "tuple_iterator", data := .fields #[.ref l, .int 0 0] }).get? s.heap.objs.size
              = some { cls := .type "set", dict := none, data := .set #[] 0 (.fresh 0 0 led) } := Heap.get?_push_of_some _ gS
          exact PyProof.Rows.SetOf_congr ((PyProof.Rows.setObjOf_fresh (knd := mixKind prog w) led).setOf get0 (by unfold scanBound; omega)) (fun _ => rfl) rfl
        case hR =>
          intro s' hm hS'
          obtain ⟨h', g', d', tk', os'⟩ := s'
          have eg : g' = s.gens := hm.gens
          have ed : d' = s.drawn := hm.drawn
          have eo : os' = s.os := hm.os
          subst eg; subst ed; subst eo
          show wpAny _ _ _ _ _ _
          refine wpAny_pure ?_
          show wpAny _ _ (ret Value.none) _ _ _
          refine wpAny_pure ⟨rfl, h', tk', rfl, hS', fun b o hb e => ?_⟩
          have n1 : b ≠ s.heap.objs.size := Nat.ne_of_lt hb
          have n2 : b ≠ (s.heap.push { cls := .type "set", dict := none, data := .set #[] 0 (.fresh 0 0 led) }).objs.size := by
            rw [Heap.size_push]; exact Nat.ne_of_lt (Nat.lt_succ_of_lt hb)
          exact hm.heap b o (by simp only [List.mem_cons, List.mem_singleton, List.not_mem_nil, or_false, not_or]; exact ⟨n1, n2⟩) (Heap.get?_push_of_some _ (Heap.get?_push_of_some _ e))
      · have hsz : ks.take items.size = ks := by rw [show items.size = ks.length by rw [← hi.1, Array.length_toList], List.take_length]
        cases r2 with
        | error e => exact hr2
        | ok f2 =>
          cases f2 with
          | ret r =>
            obtain ⟨rfl, h', tk, rfl, hS', hk'⟩ := hr2
            rw [hsz] at hS'
            repeat (any_goals (first | assumption | wp_step))
            exact K _ _ hS' hk'
          | _ => exact hr2.elim
    | _ => exact hr.elim
end
end DS

set_option Elab.async false
set_option linter.all false
set_option maxRecDepth 100000
set_option maxHeartbeats 4000000
namespace DL
open PySem PySem.Spec PyProof.Rows L2 DS
theorem keysAre_of {P : Program} {w : World} : ∀ {ks : List Key} {us : List Value}, Vals (ks.map kV) us → KeysAre P w us ks
  | [], _, .nil => ⟨rfl, fun i v h => by simp at h⟩
  | k :: ks, _, .cons r t => by
    obtain ⟨a, b⟩ := keysAre_of (P := P) (w := w) t
    refine ⟨by simp [a], fun i v h => ?_⟩
    cases i with
    | zero =>
      simp at h
      subst h
      refine ⟨kV_is r, ?_⟩
      cases k with
      | inl i => obtain ⟨tk, rfl⟩ := r; rfl
      | inr x => obtain ⟨tk, rfl⟩ := r; rfl
    | succ i => exact b i v (by simpa using h)
def tLenSetK (K : PySem.W.Frag) (ta : TE) : TE := fun σ H Q => ta σ H fun x H1 => ∃ (t : Bool) (l : Addr) (ks : List Key), x = .ref l ∧ SqG t K H1 l (ks.map kV) ∧ ks.length ≤ 4000 ∧ Q (.int ((ddp ks).length : Nat)) H1
theorem pe_lenSetK {X : Cx} {a : Expr} {ta : TE} {p p2 q pos : Pos} (hc : X.calm = true) (hg : Gl X "len") (hm : X.mg "len" = none) (hg2 : Gl X "set") (hm2 : X.mg "set" = none) (ha : PE X a ta)
    (na : starEach [a] X.env = (false, eval a X.env) :: starEach [] X.env := by rfl) : PE X (.Call (.Name "len" p) [.Call (.Name "set" p2) [a] [] q] [] pos) (tLenSetK X.K ta) := by
  refine ⟨fun pins s σ H Q I h => ?_⟩
  refine Call_ (ld_blt I hg hm PySem.boot_len ?_)
  refine PyProof.Rows.callWith_builtin1 (PyProof.Rows.args_cons ?_ rfl) rfl rfl
  refine Call_ (ld_blt I hg2 hm2 PyProof.Rows.boot_set ?_)
  refine PyProof.Rows.callWith_type1 (PyProof.Rows.args_cons (thn (ha.run pins s σ H _ I h) fun v s1 ⟨x, H1, I1, r1, q1⟩ => PyProof.Rows.args_nil ?_) na) na rfl
  obtain ⟨t, l, ks, rfl, hq, h1, q1⟩ := q1
  cases r1
  have le := ddp_le ks
  have fin : ∀ (h' : Heap) (tk : Nat), h'.SetOf (mixKind X.prog X.w) s1.heap.objs.size (fun k' => ks.any (· == k')) (ddp ks).length → (∀ b o, b < s1.heap.objs.size → s1.heap.get? b = some o → h'.get? b = some o) →
      wpAny (model X.prog X.w) X.A (spliced (backTo pos (starEach [] X.env))) (fun vs s2 => wpAny (model X.prog X.w) X.A (call (.builtin "len") (Value.ref s1.heap.objs.size :: vs)) (EP X pins σ Q) X.xe s2) X.xe { s1 with heap := h', toks := tk } := fun h' tk hS hk => by
    refine PyProof.Rows.args_nil ?_
    obtain ⟨o, es, ep, t, ho, hex, hd, _, _, _, hf, hn⟩ := hS
    have I2 : Inv X pins σ H1 { s1 with heap := h', toks := tk } := I1.kept fun b o e => hk b o (Heap.lt_size e) e
    exact call_len_set ho hex hd hf (by rw [hn] <;> omega) ⟨.int ((ddp ks).length : Nat), H1, I2.tok _, ⟨_, by rw [hn]⟩, q1⟩
  have hb : ks.length + 1 < scanBound := by unfold scanBound; omega
  obtain ⟨its, r, pl, _⟩ := seqG I1 hq
  cases t with
  | true => exact set_of_tuple (I1.ok.hd hc) pl (by simpa using keysAre_of r) hb fin
  | false => exact set_of_list (I1.ok.hd hc) pl (by simpa using keysAre_of r) hb fin
def dLenSet (d : D) : Option O1 := (seqD d).bind fun xs => (keysL xs).bind fun ks => if ks.length ≤ 4000 then some (.val (.int ((ddp ks).length : Nat))) else none
def mLenSet (m : ME) : MO := mUn dLenSet m
theorem do_lenSet {X : Cx} {a : Expr} {ma : ME} {p p2 q pos : Pos} (hc : X.calm = true) (hg : Gl X "len") (hm : X.mg "len" = none) (hg2 : Gl X "set") (hm2 : X.mg "set" = none) (ha : DE X a ma)
    (na : starEach [a] X.env = (false, eval a X.env) :: starEach [] X.env := by rfl) : DO X (.Call (.Name "len" p) [.Call (.Name "set" p2) [a] [] q] [] pos) (mLenSet ma) := peImp (pe_lenSetK hc hg hm hg2 hm2 ha na) fun σ H Q ⟨G, F, ρ, I, o, ρ', e, k⟩ => by
  obtain ⟨⟨r1, ρ1⟩, e1, e⟩ := Option.bind_eq_some_iff.mp e
  obtain ⟨d, e2, e⟩ := Option.bind_eq_some_iff.mp e
  obtain ⟨o1, e3, e⟩ := Option.bind_eq_some_iff.mp e
  cases e
  obtain ⟨xs, g1, e3⟩ := Option.bind_eq_some_iff.mp (show (seqD d).bind _ = some _ from e3)
  obtain ⟨ks, g2, e3⟩ := Option.bind_eq_some_iff.mp e3
  split at e3
  · rename_i hl
    cases e3
    refine ⟨G, F, ρ, I, r1, _, e1, fun F1 H1 v l1 I1 k1 => ?_⟩
    obtain ⟨t, p1, vs, rfl, s1, w1⟩ := (I1.vw k1 e2).seqG g1
    have ek := keysL_eq g2
    subst ek
    have ev := w1.keys
    subst ev
    exact ⟨t, p1, ks, rfl, s1, hl, k F1 H1 l1 I1 _ (.int _)⟩
  · cases e3
end DL

set_option Elab.async false
set_option linter.all false
set_option maxRecDepth 100000
set_option maxHeartbeats 4000000
namespace DL
open PySem L2
/-! ### reckoning with mirrors: by simp -/
section
variable {ρ : En} {f : D → D → Option O1} {ma mb me mo : ME}
@[simp] theorem ev_mNx : mNx ρ = some (.nx ρ) := rfl
@[simp] theorem ev_mSeq {a b : MS} : mSeq a b ρ = (a ρ).bind fun o => match o with | .nx ρ' => b ρ' | o => some o := rfl
@[simp] theorem ev_mNever : mNever ρ = none := rfl
@[simp] theorem ev_mBk : mBk ρ = some (.bk ρ) := rfl
@[simp] theorem ev_mCt : mCt ρ = some (.ct ρ) := rfl
@[simp] theorem ev_mDrop : mDrop ma ρ = (ma ρ).bind fun p => some (.nx p.2) := rfl
@[simp] theorem ev_mRet : mRet ma ρ = (ma ρ).bind fun p => (frR p.1 p.2).bind fun q => some (.rt q.1 q.2) := rfl
@[simp] theorem ev_mRetO {m : MO} : mRetO m ρ = (m ρ).bind fun p => some (retO p.1 p.2) := rfl
@[simp] theorem ev_retO_val {d : D} : retO (.val d) ρ = .rt d ρ := rfl
@[simp] theorem ev_retO_newT {d : List D} : retO (.newT d) ρ = .rt (.tup d) ρ := rfl
@[simp] theorem ev_retO_newL {d : List D} : retO (.newL d) ρ = .rn (.lst d) ρ := rfl
@[simp] theorem ev_retO_newK {d} : retO (.newK d) ρ = .rn (.dic d) ρ := rfl
@[simp] theorem ev_retO_newI {d} : retO (.newI d) ρ = .rn (.dit d) ρ := rfl
@[simp] theorem ev_mRetN : mRetN ρ = some (.rt .non ρ) := rfl
@[simp] theorem ev_mIf {c : MT} {a b : MS} : mIf c a b ρ = (c ρ).bind fun p => if p.1 = true then a p.2 else b p.2 := rfl
@[simp] theorem ev_mSet {i : Nat} : mSet i ma ρ = (ma ρ).bind fun p => (frR p.1 p.2).bind fun q => (setE i (.fz q.1) q.2).bind fun ρ' => some (.nx ρ') := rfl
@[simp] theorem ev_mSetO {i : Nat} {m : MO} : mSetO i m ρ = (m ρ).bind fun p => (setE i (ownO p.1) p.2).bind fun ρ' => some (.nx ρ') := rfl
@[simp] theorem ev_own_val {d : D} : ownO (.val d) = .fz d := rfl
@[simp] theorem ev_own_newT {d : List D} : ownO (.newT d) = .fz (.tup d) := rfl
@[simp] theorem ev_own_newL {d : List D} : ownO (.newL d) = .ow false (.lst d) := rfl
@[simp] theorem ev_own_newK {d} : ownO (.newK d) = .ow false (.dic d) := rfl
@[simp] theorem ev_own_newI {d} : ownO (.newI d) = .ow false (.dit d) := rfl
@[simp] theorem ev_d_val {d : D} : (O1.val d).d = d := rfl
@[simp] theorem ev_d_newL {d : List D} : (O1.newL d).d = .lst d := rfl
@[simp] theorem ev_d_newT {d : List D} : (O1.newT d).d = .tup d := rfl
@[simp] theorem ev_d_newK {d} : (O1.newK d).d = .dic d := rfl
@[simp] theorem ev_d_newI {d} : (O1.newI d).d = .dit d := rfl
@[simp] theorem ev_mC {d : D} : mC d ρ = some (.fz d, ρ) := rfl
@[simp] theorem ev_mVar {i : Nat} : mVar i ρ = match ρ[i]? with | some (some (.fz d)) => some (.fz d, ρ) | some (some (.ow _ _)) => some (.sl i, ρ) | _ => none := rfl
@[simp] theorem ev_fzO {m : MO} : fzO m ρ = (m ρ).bind fun p => some (.fz p.1.d, p.2) := rfl
@[simp] theorem ev_mOp : mOp f ma mb ρ = (ma ρ).bind fun p => (mb p.2).bind fun q => (vw q.2 p.1).bind fun d => (vw q.2 q.1).bind fun e => (f d e).bind fun o => some (o, q.2) := rfl
@[simp] theorem ev_mUn {g : D → Option O1} : mUn g ma ρ = (ma ρ).bind fun p => (vw p.2 p.1).bind fun d => (g d).bind fun o => some (o, p.2) := rfl
@[simp] theorem ev_vw_fz {d : D} : vw ρ (.fz d) = some d := rfl
@[simp] theorem ev_vw_sl {i : Nat} : vw ρ (.sl i) = match ρ[i]? with | some (some (.ow _ d)) => some d | _ => none := rfl
@[simp] theorem ev_frR_fz {d : D} : frR (.fz d) ρ = some (d, ρ) := rfl
@[simp] theorem ev_frR_sl {i : Nat} : frR (.sl i) ρ = match ρ[i]? with | some (some (.ow false d)) => some (d, ρ.set i (some (.fz d))) | _ => none := rfl
@[simp] theorem ev_setE {i : Nat} {dv : DV} : setE i dv ρ = match ρ[i]? with | some (some (.ow true _)) => none | some _ => some (ρ.set i (some dv)) | none => none := rfl
@[simp] theorem ev_mNil : mNil ρ = some ([], ρ) := rfl
@[simp] theorem ev_mCons {ms : MA} : mCons ma ms ρ = (ma ρ).bind fun p => (ms p.2).bind fun q => some (p.1 :: q.1, q.2) := rfl
@[simp] theorem ev_vws_nil : vws ρ [] = some [] := rfl
@[simp] theorem ev_vws_cons {r : RV} {rs : List RV} : vws ρ (r :: rs) = (vw ρ r).bind fun d => (vws ρ rs).bind fun ds => some (d :: ds) := rfl
@[simp] theorem ev_frs_nil : frs [] ρ = some ([], ρ) := rfl
@[simp] theorem ev_frs_cons {r : RV} {rs : List RV} : frs (r :: rs) ρ = (frR r ρ).bind fun p => (frs rs p.2).bind fun q => some (p.1 :: q.1, q.2) := rfl
@[simp] theorem ev_mCB {g : List D → Option O1} {m : MA} : mCB g m ρ = (m ρ).bind fun p => (vws p.2 p.1).bind fun ds => (g ds).bind fun o => some (o, p.2) := rfl
@[simp] theorem ev_f1 {g : D → Option O1} {d : D} : f1 g [d] = g d := rfl
@[simp] theorem ev_f2 {d e : D} : f2 f [d, e] = f d e := rfl
@[simp] theorem ev_mTestO {m : MO} : mTestO m ρ = (m ρ).bind fun p => match p.1 with | .val (.bl b) => some (b, p.2) | _ => none := rfl
@[simp] theorem ev_mBool : mBool ma ρ = (ma ρ).bind fun p => match p.1 with | .fz (.bl b) => some (b, p.2) | _ => none := rfl
@[simp] theorem ev_mNot {m : MT} : mNot m ρ = (m ρ).bind fun p => some (!p.1, p.2) := rfl
@[simp] theorem ev_mAnd {a b : MT} : mAnd a b ρ = (a ρ).bind fun p => if p.1 = true then b p.2 else some (false, p.2) := rfl
@[simp] theorem ev_mOr {a b : MT} : mOr a b ρ = (a ρ).bind fun p => if p.1 = true then some (true, p.2) else b p.2 := rfl
@[simp] theorem ev_mAndE : mAndE ma mb ρ = (ma ρ).bind fun p => match p.1 with | .fz (.bl true) => mb p.2 | .fz (.bl false) => some (.fz (.bl false), p.2) | _ => none := rfl
@[simp] theorem ev_mOrE : mOrE ma mb ρ = (ma ρ).bind fun p => match p.1 with | .fz (.bl false) => mb p.2 | .fz (.bl true) => some (.fz (.bl true), p.2) | _ => none := rfl
@[simp] theorem ev_mNotE : mNotE ma ρ = (ma ρ).bind fun p => match p.1 with | .fz (.bl c) => some (.fz (.bl (!c)), p.2) | _ => none := rfl
@[simp] theorem ev_mYes : mYes ρ = some (true, ρ) := rfl
@[simp] theorem ev_mFor {mi : MI} {g : MG} {b : MS} : mFor mi g b ρ = (mi ρ).bind fun p => forL g b p.1 p.2 := rfl
@[simp] theorem ev_mGName {i : Nat} {d : D} : mGName i d ρ = setE i (.fz d) ρ := rfl
@[simp] theorem ev_mGTup {n : Nat} {ms : MGs} {ds : List D} : mGTup n ms (.tup ds) ρ = if ds.length = n then ms ds ρ else none := rfl
@[simp] theorem ev_mGCons {m : MG} {ms : MGs} {d : D} {ds : List D} : mGCons m ms (d :: ds) ρ = (m d ρ).bind fun ρ1 => ms ds ρ1 := rfl
@[simp] theorem ev_mGNil : mGNil [] ρ = some ρ := rfl
@[simp] theorem ev_mAsg {g : MG} : mAsg ma g ρ = (ma ρ).bind fun p => (frR p.1 p.2).bind fun q => (g q.1 q.2).bind fun ρ' => some (.nx ρ') := rfl
@[simp] theorem ev_mPar {i j : Nat} {m : MA} : mPar i j m ρ = (m ρ).bind fun p => (fr2 p.1 p.2).bind fun q => (setE i (.fz q.1) q.2.2).bind fun ρ1 => (setE j (.fz q.2.1) ρ1).bind fun ρ' => some (.nx ρ') := rfl
@[simp] theorem ev_fr2 {r1 r2 : RV} : fr2 [r1, r2] ρ = (frR r1 ρ).bind fun p => (frR r2 p.2).bind fun q => some (p.1, q.1, q.2) := rfl
@[simp] theorem ev_mIA {g : List D → Option (List D)} {m : MA} : mIA g m ρ = (m ρ).bind fun p => (vws p.2 p.1).bind fun ds => (g ds).bind fun xs => some (xs, p.2) := rfl
@[simp] theorem ev_mIAny : mIAny ma ρ = (ma ρ).bind fun p => (frR p.1 p.2).bind fun q => (anyD q.1).bind fun ds => some (ds, q.2) := rfl
@[simp] theorem ev_any_lst {ds : List D} : anyD (.lst ds) = some ds := rfl
@[simp] theorem ev_any_tup {ds : List D} : anyD (.tup ds) = some ds := rfl
@[simp] theorem ev_any_scr {ns : List Int} : anyD (.scr ns) = some (ns.map D.int) := rfl
@[simp] theorem ev_any_str {z : Str} : anyD (.str z) = some (signsD z) := rfl
@[simp] theorem ev_mCall {mf : List D → Option D} {m : MA} : mCall mf m ρ = (m ρ).bind fun p => (frs p.1 p.2).bind fun q => (mf q.1).bind fun r => some (.fz r, q.2) := rfl
@[simp] theorem ev_mCallN {mf : List D → Option D} {m : MA} : mCallN mf m ρ = (m ρ).bind fun p => (frs p.1 p.2).bind fun q => (mf q.1).bind fun r => (newO r).bind fun o => some (o, q.2) := rfl
@[simp] theorem ev_newO_lst {ds : List D} : newO (.lst ds) = some (.newL ds) := rfl
@[simp] theorem ev_newO_dic {kv} : newO (.dic kv) = some (.newK kv) := rfl
@[simp] theorem ev_newO_dit {kv} : newO (.dit kv) = some (.newI kv) := rfl
@[simp] theorem ev_mCallB {j : Nat} {mf : List D → Option (D × D)} {m : MA} : mCallB j mf m ρ = (m ρ).bind fun p => (frB j p.1 p.2).bind fun q => (mf q.1).bind fun r => some (.fz r.1, putO q.2.1 r.2 q.2.2) := rfl
@[simp] theorem ev_frB {j : Nat} {rs : List RV} : frB j rs ρ = match rs[j]? with | some (.sl i) => (frs (rs.set j (.fz .non)) ρ).bind fun p => (match p.2[i]? with | some (some (.ow _ d)) => some (p.1.set j d, i, p.2) | _ => none) | _ => none := rfl
@[simp] theorem ev_putO {i : Nat} {d : D} : putO i d ρ = match ρ[i]? with | some (some (.ow b _)) => ρ.set i (some (.ow b d)) | _ => ρ := rfl
@[simp] theorem ev_mMut {i : Nat} {g : D → List D → Option (D × D)} {m : MA} : mMut i g m ρ = match ρ[i]? with
  | some (some (.ow _ d0)) => if isLst d0 = true then (m ρ).bind fun p => (frs p.1 p.2).bind fun q => match q.2[i]? with
      | some (some (.ow b d)) => (g d q.1).bind fun r => some (.fz r.1, q.2.set i (some (.ow b r.2)))
      | _ => none
    else none
  | _ => none := rfl
@[simp] theorem ev_isLst {ds : List D} : isLst (.lst ds) = true := rfl
@[simp] theorem ev_mPop {i : Nat} : mPop i ρ = match ρ[i]? with | some (some (.ow b d)) => (fPop d).bind fun r => some (.fz r.1, ρ.set i (some (.ow b r.2))) | _ => none := rfl
@[simp] theorem ev_mStore {i : Nat} {mk : ME} : mStore i me mk ρ = (me ρ).bind fun p => (frR p.1 p.2).bind fun q => if isOw q.2 i = true then (mk q.2).bind fun a => (vw a.2 a.1).bind fun kd => match a.2[i]? with
  | some (some (.ow b d)) => (dStore d kd q.1).bind fun d' => some (.nx (a.2.set i (some (.ow b d'))))
  | _ => none
  else none := rfl
@[simp] theorem ev_isOw {i : Nat} : isOw ρ i = match ρ[i]? with | some (some (.ow _ _)) => true | _ => false := rfl
@[simp] theorem ev_mSl {lo hi : MP} : mSl ma lo hi ρ = (ma ρ).bind fun p => (lo p.2).bind fun a => (hi a.2).bind fun b => (vw b.2 p.1).bind fun d => (dSl d a.1 b.1).bind fun o => some (o, b.2) := rfl
@[simp] theorem ev_mNoP : mNoP ρ = some (none, ρ) := rfl
@[simp] theorem ev_mP : mP ma ρ = (ma ρ).bind fun p => match p.1 with | .fz (.int i) => some (some i, p.2) | _ => none := rfl
@[simp] theorem ev_mTup {m : MA} : mTup m ρ = (m ρ).bind fun p => (frs p.1 p.2).bind fun q => if q.1.length ≤ cap then some (.newT q.1, q.2) else none := rfl
@[simp] theorem ev_mLst {m : MA} : mLst m ρ = (m ρ).bind fun p => (frs p.1 p.2).bind fun q => if q.1.length ≤ cap then some (.newL q.1, q.2) else none := rfl
@[simp] theorem ev_mDicK : mDicK ρ = some (.newK [], ρ) := rfl
@[simp] theorem ev_mDicT : mDicT ρ = some (.newI [], ρ) := rfl
@[simp] theorem ev_mIfE {c : MT} : mIfE c ma mb ρ = (c ρ).bind fun p => if p.1 = true then ma p.2 else mb p.2 := rfl
@[simp] theorem ev_mIsi {T : TyN} : mIsi T ma ρ = (ma ρ).bind fun p => (vw p.2 p.1).bind fun d => ((isiD T d).bind fun b => some (O1.val (.bl b))).bind fun o => some (o, p.2) := rfl
@[simp] theorem ev_mM1 : mM1 f mo me ρ = (mo ρ).bind fun p => if isStrV p.1 = true then (me p.2).bind fun q => (vw q.2 p.1).bind fun d => (vw q.2 q.1).bind fun e => (f d e).bind fun o => some (o, q.2) else none := rfl
@[simp] theorem ev_isStrV {z : Str} : isStrV (.fz (.str z)) = true := rfl
@[simp] theorem ev_mLc {mi : MI} {g : MG} {vs : List Nat} {mt : MT} : mLc mi g vs mt me ρ = (mi ρ).bind fun p => if okW vs p.2 = true ∧ p.1.length ≤ cap then (lcL g vs mt me p.1 p.2).bind fun q => some (.newL q.1, q.2) else none := rfl
@[simp] theorem ev_okW_nil : okW [] ρ = true := rfl
@[simp] theorem ev_okW_cons {v : Nat} {vs : List Nat} : okW (v :: vs) ρ = ((match ρ[v]? with | some (some (.ow _ _)) => false | _ => true) && okW vs ρ) := rfl
@[simp] theorem ev_wipeE_nil : wipeE ρ [] = ρ := rfl
@[simp] theorem ev_wipeE_cons {v : Nat} {vs : List Nat} : wipeE ρ (v :: vs) = (wipeE ρ vs).set v none := rfl
@[simp] theorem ev_unw_nil {ρ4 : En} : unw ρ ρ4 [] = ρ4 := rfl
@[simp] theorem ev_unw_cons {ρ4 : En} {v : Nat} {vs : List Nat} : unw ρ ρ4 (v :: vs) = (unw ρ ρ4 vs).set v (ρ.getD v none) := rfl
@[simp] theorem ev_mAug {i : Nat} : mAug i f ma ρ = match ρ[i]? with
  | some (some (.fz d)) => (ma ρ).bind fun p => (vw p.2 p.1).bind fun e => (f d e).bind fun o => match o with
    | .val z => (setE i (.fz z) p.2).bind fun ρ' => some (.nx ρ')
    | _ => none
  | _ => none := rfl
@[simp] theorem ev_mSetMv {i : Nat} : mSetMv i ma ρ = (ma ρ).bind fun p => match p.1 with
  | .fz d => (setE i (.fz d) p.2).bind fun ρ' => some (.nx ρ')
  | .sl j => match p.2[j]? with
    | some (some (.ow false d)) => if i = j then none else (setE i (.ow false d) (p.2.set j none)).bind fun ρ' => some (.nx ρ')
    | _ => none := rfl
@[simp] theorem ev_mRetV : mRetV ma ρ = (ma ρ).bind fun p => match p.1 with
  | .fz d => some (.rt d p.2)
  | .sl i => match p.2[i]? with
    | some (some (.ow false d)) => some (.rn d p.2)
    | _ => none := rfl
end
/-! ### the operations at data -/
section
variable {i j : Int} {x y : Str} {ds es : List D}
@[simp] theorem dAdd_int : dAdd (.int i) (.int j) = some (.val (.int (i + j))) := rfl
@[simp] theorem dAdd_str : dAdd (.str x) (.str y) = if x.length + y.length ≤ cap then some (.val (.str (x ++ y))) else none := rfl
@[simp] theorem dAdd_lst : dAdd (.lst ds) (.lst es) = if ds.length + es.length ≤ cap then some (.newL (ds ++ es)) else none := rfl
@[simp] theorem dSub_int : dSub (.int i) (.int j) = some (.val (.int (i - j))) := rfl
@[simp] theorem dMul_int : dMulS (.int i) (.int j) = if mulOk i j = true then some (.val (.int (i * j))) else none := rfl
@[simp] theorem dMul_lst : dMulS (.lst ds) (.int j) = if 0 ≤ j ∧ j ≤ 1000 ∧ ds.length ≤ 1000 then some (.newL (List.replicate j.toNat ds).flatten) else none := rfl
@[simp] theorem dMul_str : dMulS (.str x) (.int j) = if 0 ≤ j ∧ j ≤ 1000 ∧ x.length ≤ 1000 then some (.val (.str (Txt.mul x j))) else none := rfl
@[simp] theorem dDiv_int : dDiv (.int i) (.int j) = if divOk i j = true then some (.val (.int (i / j))) else none := rfl
@[simp] theorem dMod_int : dMod (.int i) (.int j) = if modOk i j = true then some (.val (.int (i % j))) else none := rfl
@[simp] theorem dPow_int : dPow (.int i) (.int j) = if powOk i j = true then some (.val (.int (i ^ j.toNat))) else none := rfl
@[simp] theorem dLt_int : dLt (.int i) (.int j) = some (.val (.bl (decide (i < j)))) := rfl
@[simp] theorem dLe_int : dLe (.int i) (.int j) = some (.val (.bl (decide (i ≤ j)))) := rfl
@[simp] theorem dGt_int : dGt (.int i) (.int j) = some (.val (.bl (decide (j < i)))) := rfl
@[simp] theorem dGe_int : dGe (.int i) (.int j) = some (.val (.bl (decide (j ≤ i)))) := rfl
@[simp] theorem dEq_int : dEq (.int i) (.int j) = some (.val (.bl (decide (i = j)))) := rfl
@[simp] theorem dEq_str : dEq (.str x) (.str y) = some (.val (.bl (decide (x = y)))) := rfl
@[simp] theorem dNe_int : dNe (.int i) (.int j) = some (.val (.bl (!decide (i = j)))) := rfl
@[simp] theorem dNe_str : dNe (.str x) (.str y) = some (.val (.bl (!decide (x = y)))) := rfl
@[simp] theorem dIx_lst : dIx (.lst ds) (.int i) = (atI ds i).bind fun x => some (.val x) := rfl
@[simp] theorem dIx_tup : dIx (.tup ds) (.int i) = (atI ds i).bind fun x => some (.val x) := rfl
@[simp] theorem dIx_scr {ns : List Int} : dIx (.scr ns) (.int i) = (atI (ns.map D.int) i).bind fun x => some (.val x) := rfl
@[simp] theorem dIx_str : dIx (.str x) (.int i) = if x.length ≤ cap then (atI x.cps.toList i).bind fun c => some (.val (.str ⟨#[c]⟩)) else none := rfl
@[simp] theorem seqD_lst : seqD (.lst ds) = some ds := rfl
@[simp] theorem seqD_tup : seqD (.tup ds) = some ds := rfl
@[simp] theorem seqD_scr {ns : List Int} : seqD (.scr ns) = some (ns.map D.int) := rfl
@[simp] theorem dLen_lst : dLen (.lst ds) = some (.val (.int ds.length)) := rfl
@[simp] theorem dLen_tup : dLen (.tup ds) = some (.val (.int ds.length)) := rfl
@[simp] theorem dLen_scr {ns : List Int} : dLen (.scr ns) = some (.val (.int ns.length)) := by unfold dLen; simp
@[simp] theorem dLen_str : dLen (.str x) = if x.length ≤ cap then some (.val (.int x.length)) else none := rfl
@[simp] theorem dList_lst : dList (.lst ds) = some (.newL ds) := rfl
@[simp] theorem dList_tup : dList (.tup ds) = some (.newL ds) := rfl
@[simp] theorem dTuple_lst : dTuple (.lst ds) = some (.newT ds) := rfl
@[simp] theorem dTuple_tup : dTuple (.tup ds) = some (.val (.tup ds)) := rfl
@[simp] theorem dSl_lst {lo hi : Option Int} : dSl (.lst ds) lo hi = some (.newL (cutD ds lo hi)) := rfl
@[simp] theorem dSl_scr {ns : List Int} {lo hi : Option Int} : dSl (.scr ns) lo hi = some (.newL (cutD (ns.map D.int) lo hi)) := rfl
@[simp] theorem dSl_str {lo hi : Option Int} : dSl (.str x) lo hi = if x.length ≤ cap then some (.val (.str (cutS x lo hi))) else none := rfl
@[simp] theorem dRev_lst : dRev (.lst ds) = some (.newL ds.reverse) := rfl
@[simp] theorem dStr_int : dStr (.int i) = if i.natAbs.log2 < 1920 then some (.val (.str (toString i))) else none := rfl
@[simp] theorem dInt_int : dInt (.int i) = some (.val (.int i)) := rfl
@[simp] theorem dInt_bl {b : Bool} : dInt (.bl b) = some (.val (.int (if b then 1 else 0))) := rfl
@[simp] theorem dAbs_int : dAbs (.int i) = some (.val (.int (if i < 0 then -i else i))) := rfl
@[simp] theorem dMax2_int : dMax2 (.int i) (.int j) = some (.val (.int (if j > i then j else i))) := rfl
@[simp] theorem dMin2_int : dMin2 (.int i) (.int j) = some (.val (.int (if j < i then j else i))) := rfl
@[simp] theorem dNeg_int : dNeg (.int i) = some (.val (.int (-i))) := rfl
@[simp] theorem intsOf_ints {ns : List Int} : intsOf (.lst (ns.map D.int)) = some ns := intsL_map ns
@[simp] theorem intsOf_scr {ns : List Int} : intsOf (.scr ns) = some ns := rfl
@[simp] theorem dSum_eq {d : D} : dSum d = (intsOf d).bind fun ns => some (.val (.int ns.sum)) := rfl
@[simp] theorem isi_int {T : TyN} : isiD T (.int i) = some (match T with | .int => true | _ => false) := rfl
@[simp] theorem isi_str {T : TyN} : isiD T (.str x) = some (match T with | .str => true | _ => false) := rfl
@[simp] theorem isi_tup {T : TyN} : isiD T (.tup ds) = some (match T with | .tuple => true | _ => false) := rfl
@[simp] theorem isi_bl {T : TyN} {b : Bool} : isiD T (.bl b) = some (match T with | .int => true | .bool => true | _ => false) := rfl
@[simp] theorem fAppend_eq {d : D} : fAppend (.lst ds) [d] = if ds.length < cap then some (.non, .lst (ds ++ [d])) else none := rfl
@[simp] theorem fExtend_eq : fExtend (.lst ds) [.lst es] = if ds.length + es.length ≤ cap then some (.non, .lst (ds ++ es)) else none := rfl
@[simp] theorem dJoin_str {e : D} : dJoin (.str x) e = (seqD e).bind fun ds => (strsL ds).bind fun ys => if (ys.map (·.length)).sum + ys.length * x.length ≤ cap then some (.val (.str (Txt.join x ys))) else none := rfl
@[simp] theorem rng1_eq : rng1 [.int j] = if -1000000 ≤ j ∧ j ≤ 1000000 then some (rngD 0 j.toNat) else none := rfl
@[simp] theorem rng2_eq : rng2 [.int i, .int j] = if (-1000000 ≤ i ∧ i ≤ 1000000) ∧ (-1000000 ≤ j ∧ j ≤ 1000000) then some (rngD i (j - i).toNat) else none := rfl
theorem mulOk_of {i j : Int} (a b : Nat) (hi : i.natAbs < 2 ^ a) (hj : j.natAbs < 2 ^ b) (h : a + b < 1000000) : mulOk i j = true := by
  unfold mulOk
  apply decide_eq_true
  have h1 : i.natAbs.log2 ≤ a := by
    by_cases z : i.natAbs = 0
    · rw [z]; simp
    · exact Nat.le_of_lt ((Nat.log2_lt z).mpr hi)
  have h2 : j.natAbs.log2 ≤ b := by
    by_cases z : j.natAbs = 0
    · rw [z]; simp
    · exact Nat.le_of_lt ((Nat.log2_lt z).mpr hj)
  omega
/-- both below 2^64 -/
theorem mulOk64 {i j : Int} (hi : -18446744073709551616 < i ∧ i < 18446744073709551616) (hj : -18446744073709551616 < j ∧ j < 18446744073709551616) : mulOk i j = true := mulOk_of 64 64 (by omega) (by omega) (by decide)
theorem divOk64 {i j : Int} (hj : 0 < j ∧ j < 18446744073709551616) : divOk i j = true := by
  unfold divOk
  rw [decide_eq_true hj.1, decide_eq_true ?_]; rfl
  have : j.natAbs.log2 < 64 := (Nat.log2_lt (by omega)).mpr (by omega)
  omega
theorem modOk_of {i j : Int} (h : 0 < j) : modOk i j = true := decide_eq_true h
end
@[simp] theorem atI_0 {α : Type} {x0 : α} {l : List α} : atI (x0 :: l) 0 = some x0 := by
  have h1 : (0 : Int) ≤ 0 := by decide
  have h2 : (0 : Int) < ((x0 :: l).length : Nat) := by simp only [List.length_cons]; omega
  unfold atI ixN; rw [if_pos h1, if_pos h2]; rfl
@[simp] theorem st_0 {x0 v : D} {l : List D} : dStore (.lst (x0 :: l)) (.int 0) v = some (.lst (v :: l)) := by
  have h1 : (0 : Int) ≤ 0 := by decide
  have h2 : (0 : Int) < ((x0 :: l).length : Nat) := by simp only [List.length_cons]; omega
  show (ixN _ _).bind _ = _
  unfold ixN; rw [if_pos h1, if_pos h2]; rfl
@[simp] theorem atI_1 {α : Type} {x0 x1 : α} {l : List α} : atI (x0 :: x1 :: l) 1 = some x1 := by
  have h1 : (0 : Int) ≤ 1 := by decide
  have h2 : (1 : Int) < ((x0 :: x1 :: l).length : Nat) := by simp only [List.length_cons]; omega
  unfold atI ixN; rw [if_pos h1, if_pos h2]; rfl
@[simp] theorem st_1 {x0 x1 v : D} {l : List D} : dStore (.lst (x0 :: x1 :: l)) (.int 1) v = some (.lst (x0 :: v :: l)) := by
  have h1 : (0 : Int) ≤ 1 := by decide
  have h2 : (1 : Int) < ((x0 :: x1 :: l).length : Nat) := by simp only [List.length_cons]; omega
  show (ixN _ _).bind _ = _
  unfold ixN; rw [if_pos h1, if_pos h2]; rfl
@[simp] theorem atI_2 {α : Type} {x0 x1 x2 : α} {l : List α} : atI (x0 :: x1 :: x2 :: l) 2 = some x2 := by
  have h1 : (0 : Int) ≤ 2 := by decide
  have h2 : (2 : Int) < ((x0 :: x1 :: x2 :: l).length : Nat) := by simp only [List.length_cons]; omega
  unfold atI ixN; rw [if_pos h1, if_pos h2]; rfl
@[simp] theorem st_2 {x0 x1 x2 v : D} {l : List D} : dStore (.lst (x0 :: x1 :: x2 :: l)) (.int 2) v = some (.lst (x0 :: x1 :: v :: l)) := by
  have h1 : (0 : Int) ≤ 2 := by decide
  have h2 : (2 : Int) < ((x0 :: x1 :: x2 :: l).length : Nat) := by simp only [List.length_cons]; omega
  show (ixN _ _).bind _ = _
  unfold ixN; rw [if_pos h1, if_pos h2]; rfl
@[simp] theorem atI_3 {α : Type} {x0 x1 x2 x3 : α} {l : List α} : atI (x0 :: x1 :: x2 :: x3 :: l) 3 = some x3 := by
  have h1 : (0 : Int) ≤ 3 := by decide
  have h2 : (3 : Int) < ((x0 :: x1 :: x2 :: x3 :: l).length : Nat) := by simp only [List.length_cons]; omega
  unfold atI ixN; rw [if_pos h1, if_pos h2]; rfl
@[simp] theorem st_3 {x0 x1 x2 x3 v : D} {l : List D} : dStore (.lst (x0 :: x1 :: x2 :: x3 :: l)) (.int 3) v = some (.lst (x0 :: x1 :: x2 :: v :: l)) := by
  have h1 : (0 : Int) ≤ 3 := by decide
  have h2 : (3 : Int) < ((x0 :: x1 :: x2 :: x3 :: l).length : Nat) := by simp only [List.length_cons]; omega
  show (ixN _ _).bind _ = _
  unfold ixN; rw [if_pos h1, if_pos h2]; rfl
@[simp] theorem atI_4 {α : Type} {x0 x1 x2 x3 x4 : α} {l : List α} : atI (x0 :: x1 :: x2 :: x3 :: x4 :: l) 4 = some x4 := by
  have h1 : (0 : Int) ≤ 4 := by decide
  have h2 : (4 : Int) < ((x0 :: x1 :: x2 :: x3 :: x4 :: l).length : Nat) := by simp only [List.length_cons]; omega
  unfold atI ixN; rw [if_pos h1, if_pos h2]; rfl
@[simp] theorem st_4 {x0 x1 x2 x3 x4 v : D} {l : List D} : dStore (.lst (x0 :: x1 :: x2 :: x3 :: x4 :: l)) (.int 4) v = some (.lst (x0 :: x1 :: x2 :: x3 :: v :: l)) := by
  have h1 : (0 : Int) ≤ 4 := by decide
  have h2 : (4 : Int) < ((x0 :: x1 :: x2 :: x3 :: x4 :: l).length : Nat) := by simp only [List.length_cons]; omega
  show (ixN _ _).bind _ = _
  unfold ixN; rw [if_pos h1, if_pos h2]; rfl
@[simp] theorem atI_5 {α : Type} {x0 x1 x2 x3 x4 x5 : α} {l : List α} : atI (x0 :: x1 :: x2 :: x3 :: x4 :: x5 :: l) 5 = some x5 := by
  have h1 : (0 : Int) ≤ 5 := by decide
  have h2 : (5 : Int) < ((x0 :: x1 :: x2 :: x3 :: x4 :: x5 :: l).length : Nat) := by simp only [List.length_cons]; omega
  unfold atI ixN; rw [if_pos h1, if_pos h2]; rfl
@[simp] theorem st_5 {x0 x1 x2 x3 x4 x5 v : D} {l : List D} : dStore (.lst (x0 :: x1 :: x2 :: x3 :: x4 :: x5 :: l)) (.int 5) v = some (.lst (x0 :: x1 :: x2 :: x3 :: x4 :: v :: l)) := by
  have h1 : (0 : Int) ≤ 5 := by decide
  have h2 : (5 : Int) < ((x0 :: x1 :: x2 :: x3 :: x4 :: x5 :: l).length : Nat) := by simp only [List.length_cons]; omega
  show (ixN _ _).bind _ = _
  unfold ixN; rw [if_pos h1, if_pos h2]; rfl
@[simp] theorem atI_6 {α : Type} {x0 x1 x2 x3 x4 x5 x6 : α} {l : List α} : atI (x0 :: x1 :: x2 :: x3 :: x4 :: x5 :: x6 :: l) 6 = some x6 := by
  have h1 : (0 : Int) ≤ 6 := by decide
  have h2 : (6 : Int) < ((x0 :: x1 :: x2 :: x3 :: x4 :: x5 :: x6 :: l).length : Nat) := by simp only [List.length_cons]; omega
  unfold atI ixN; rw [if_pos h1, if_pos h2]; rfl
@[simp] theorem st_6 {x0 x1 x2 x3 x4 x5 x6 v : D} {l : List D} : dStore (.lst (x0 :: x1 :: x2 :: x3 :: x4 :: x5 :: x6 :: l)) (.int 6) v = some (.lst (x0 :: x1 :: x2 :: x3 :: x4 :: x5 :: v :: l)) := by
  have h1 : (0 : Int) ≤ 6 := by decide
  have h2 : (6 : Int) < ((x0 :: x1 :: x2 :: x3 :: x4 :: x5 :: x6 :: l).length : Nat) := by simp only [List.length_cons]; omega
  show (ixN _ _).bind _ = _
  unfold ixN; rw [if_pos h1, if_pos h2]; rfl
@[simp] theorem atI_7 {α : Type} {x0 x1 x2 x3 x4 x5 x6 x7 : α} {l : List α} : atI (x0 :: x1 :: x2 :: x3 :: x4 :: x5 :: x6 :: x7 :: l) 7 = some x7 := by
  have h1 : (0 : Int) ≤ 7 := by decide
  have h2 : (7 : Int) < ((x0 :: x1 :: x2 :: x3 :: x4 :: x5 :: x6 :: x7 :: l).length : Nat) := by simp only [List.length_cons]; omega
  unfold atI ixN; rw [if_pos h1, if_pos h2]; rfl
@[simp] theorem st_7 {x0 x1 x2 x3 x4 x5 x6 x7 v : D} {l : List D} : dStore (.lst (x0 :: x1 :: x2 :: x3 :: x4 :: x5 :: x6 :: x7 :: l)) (.int 7) v = some (.lst (x0 :: x1 :: x2 :: x3 :: x4 :: x5 :: x6 :: v :: l)) := by
  have h1 : (0 : Int) ≤ 7 := by decide
  have h2 : (7 : Int) < ((x0 :: x1 :: x2 :: x3 :: x4 :: x5 :: x6 :: x7 :: l).length : Nat) := by simp only [List.length_cons]; omega
  show (ixN _ _).bind _ = _
  unfold ixN; rw [if_pos h1, if_pos h2]; rfl
@[simp] theorem atI_8 {α : Type} {x0 x1 x2 x3 x4 x5 x6 x7 x8 : α} {l : List α} : atI (x0 :: x1 :: x2 :: x3 :: x4 :: x5 :: x6 :: x7 :: x8 :: l) 8 = some x8 := by
  have h1 : (0 : Int) ≤ 8 := by decide
  have h2 : (8 : Int) < ((x0 :: x1 :: x2 :: x3 :: x4 :: x5 :: x6 :: x7 :: x8 :: l).length : Nat) := by simp only [List.length_cons]; omega
  unfold atI ixN; rw [if_pos h1, if_pos h2]; rfl
@[simp] theorem st_8 {x0 x1 x2 x3 x4 x5 x6 x7 x8 v : D} {l : List D} : dStore (.lst (x0 :: x1 :: x2 :: x3 :: x4 :: x5 :: x6 :: x7 :: x8 :: l)) (.int 8) v = some (.lst (x0 :: x1 :: x2 :: x3 :: x4 :: x5 :: x6 :: x7 :: v :: l)) := by
  have h1 : (0 : Int) ≤ 8 := by decide
  have h2 : (8 : Int) < ((x0 :: x1 :: x2 :: x3 :: x4 :: x5 :: x6 :: x7 :: x8 :: l).length : Nat) := by simp only [List.length_cons]; omega
  show (ixN _ _).bind _ = _
  unfold ixN; rw [if_pos h1, if_pos h2]; rfl
@[simp] theorem atI_9 {α : Type} {x0 x1 x2 x3 x4 x5 x6 x7 x8 x9 : α} {l : List α} : atI (x0 :: x1 :: x2 :: x3 :: x4 :: x5 :: x6 :: x7 :: x8 :: x9 :: l) 9 = some x9 := by
  have h1 : (0 : Int) ≤ 9 := by decide
  have h2 : (9 : Int) < ((x0 :: x1 :: x2 :: x3 :: x4 :: x5 :: x6 :: x7 :: x8 :: x9 :: l).length : Nat) := by simp only [List.length_cons]; omega
  unfold atI ixN; rw [if_pos h1, if_pos h2]; rfl
@[simp] theorem st_9 {x0 x1 x2 x3 x4 x5 x6 x7 x8 x9 v : D} {l : List D} : dStore (.lst (x0 :: x1 :: x2 :: x3 :: x4 :: x5 :: x6 :: x7 :: x8 :: x9 :: l)) (.int 9) v = some (.lst (x0 :: x1 :: x2 :: x3 :: x4 :: x5 :: x6 :: x7 :: x8 :: v :: l)) := by
  have h1 : (0 : Int) ≤ 9 := by decide
  have h2 : (9 : Int) < ((x0 :: x1 :: x2 :: x3 :: x4 :: x5 :: x6 :: x7 :: x8 :: x9 :: l).length : Nat) := by simp only [List.length_cons]; omega
  show (ixN _ _).bind _ = _
  unfold ixN; rw [if_pos h1, if_pos h2]; rfl
theorem atI_of {α : Type} {xs : List α} {i : Int} (h0 : 0 ≤ i) (h1 : i < xs.length) : atI xs i = xs[i.toNat]? := by
  unfold atI ixN
  rw [if_pos h0, if_pos h1]; rfl
theorem atI_some {α : Type} {xs : List α} {i : Int} (h0 : 0 ≤ i) (h1 : i < xs.length) : ∃ x, atI xs i = some x ∧ x ∈ xs ∧ xs[i.toNat]? = some x := by
  rw [atI_of h0 h1]
  have : i.toNat < xs.length := by omega
  exact ⟨xs[i.toNat], by simp [this], List.getElem_mem this, by simp [this]⟩
/-! ### loops -/
theorem forL_inv {g : MG} {b : MS} (P : Nat → En → Prop) {ds : List D} {ρ : En} (h0 : P 0 ρ)
    (hs : ∀ (i : Nat) (d : D) (ρ : En), ds[i]? = some d → P i ρ → ∃ ρ1 ρ2, g d ρ = some ρ1 ∧ (b ρ1 = some (.nx ρ2) ∨ b ρ1 = some (.ct ρ2)) ∧ P (i + 1) ρ2) :
    ∃ ρ', forL g b ds ρ = some (.nx ρ') ∧ P ds.length ρ' := by
  induction ds generalizing P ρ with
  | nil => exact ⟨ρ, rfl, h0⟩
  | cons d ds ih =>
    obtain ⟨ρ1, ρ2, e1, e2, p⟩ := hs 0 d ρ rfl h0
    obtain ⟨ρ', e3, p'⟩ := ih (fun i => P (i + 1)) p fun i d' ρ hd hp => hs (i + 1) d' ρ (by simpa using hd) hp
    refine ⟨ρ', ?_, p'⟩
    unfold forL
    rw [e1]
    rcases e2 with e2 | e2
    · show (b ρ1).bind _ = _; rw [e2]; exact e3
    · show (b ρ1).bind _ = _; rw [e2]; exact e3
/-- a comprehension: P by the turn, what is made so far, the state -/
theorem lcL_inv {g : MG} {vs : List Nat} {mt : MT} {me : ME} (P : Nat → List D → En → Prop) {ds : List D} {ρ : En} (h0 : P 0 [] ρ)
    (hs : ∀ (i : Nat) (d : D) (acc : List D) (ρ : En), ds[i]? = some d → P i acc ρ → ∃ ρ1 b ρ2, g d (wipeE ρ vs) = some ρ1 ∧ mt ρ1 = some (b, ρ2) ∧ ((b = true ∧ ∃ r ρ3 e ρ4, me ρ2 = some (r, ρ3) ∧ frR r ρ3 = some (e, ρ4) ∧ ρ4.length = ρ.length ∧ P (i + 1) (acc ++ [e]) (unw ρ ρ4 vs)) ∨ (b = false ∧ ρ2.length = ρ.length ∧ P (i + 1) acc (unw ρ ρ2 vs)))) :
    ∃ out ρ', lcL g vs mt me ds ρ = some (out, ρ') ∧ P ds.length out ρ' := by
  suffices h : ∀ (ds : List D) (P : Nat → List D → En → Prop) (acc : List D) (ρ : En), P 0 acc ρ → (∀ (i : Nat) (d : D) (acc : List D) (ρ : En), ds[i]? = some d → P i acc ρ → ∃ ρ1 b ρ2, g d (wipeE ρ vs) = some ρ1 ∧ mt ρ1 = some (b, ρ2) ∧ ((b = true ∧ ∃ r ρ3 e ρ4, me ρ2 = some (r, ρ3) ∧ frR r ρ3 = some (e, ρ4) ∧ ρ4.length = ρ.length ∧ P (i + 1) (acc ++ [e]) (unw ρ ρ4 vs)) ∨ (b = false ∧ ρ2.length = ρ.length ∧ P (i + 1) acc (unw ρ ρ2 vs)))) →
      ∃ out ρ', lcL g vs mt me ds ρ = some (out, ρ') ∧ P ds.length (acc ++ out) ρ' by
    obtain ⟨out, ρ', e, p⟩ := h ds P [] ρ h0 hs
    exact ⟨out, ρ', e, p⟩
  intro ds
  induction ds with
  | nil => intro P acc ρ h0 _; exact ⟨[], ρ, rfl, by simpa using h0⟩
  | cons d ds ih =>
    intro P acc ρ h0 hs
    obtain ⟨ρ1, b, ρ2, e1, e2, h⟩ := hs 0 d acc ρ rfl h0
    rcases h with ⟨rfl, r, ρ3, e, ρ4, e3, e4, hl, p⟩ | ⟨rfl, hl, p⟩
    · obtain ⟨out, ρ', e5, p'⟩ := ih (fun i => P (i + 1)) (acc ++ [e]) (unw ρ ρ4 vs) p fun i d' a ρ hd hp => hs (i + 1) d' a ρ (by simpa using hd) hp
      refine ⟨e :: out, ρ', ?_, by rw [List.append_cons]; exact p'⟩
      unfold lcL
      simp [e1, e2, e3, e4, hl, e5]
    · obtain ⟨out, ρ', e5, p'⟩ := ih (fun i => P (i + 1)) acc (unw ρ ρ2 vs) p fun i d' a ρ hd hp => hs (i + 1) d' a ρ (by simpa using hd) hp
      refine ⟨out, ρ', ?_, p'⟩
      unfold lcL
      simp [e1, e2, hl, e5]
theorem lcL_ex {g : MG} {vs : List Nat} {mt : MT} {me : ME} (P : Nat → List D → En → Prop) {ds : List D} {ρ : En} {goal : Prop} (h0 : P 0 [] ρ)
    (hs : ∀ (i : Nat) (d : D) (acc : List D) (ρ : En), ds[i]? = some d → P i acc ρ → ∃ ρ1 b ρ2, g d (wipeE ρ vs) = some ρ1 ∧ mt ρ1 = some (b, ρ2) ∧ ((b = true ∧ ∃ r ρ3 e ρ4, me ρ2 = some (r, ρ3) ∧ frR r ρ3 = some (e, ρ4) ∧ ρ4.length = ρ.length ∧ P (i + 1) (acc ++ [e]) (unw ρ ρ4 vs)) ∨ (b = false ∧ ρ2.length = ρ.length ∧ P (i + 1) acc (unw ρ ρ2 vs))))
    (k : ∀ out ρ', lcL g vs mt me ds ρ = some (out, ρ') → P ds.length out ρ' → goal) : goal := by
  obtain ⟨out, ρ', e, p⟩ := lcL_inv P h0 hs
  exact k out ρ' e p
theorem forL_ex {g : MG} {b : MS} (P : Nat → En → Prop) {ds : List D} {ρ : En} {goal : Prop} (h0 : P 0 ρ)
    (hs : ∀ (i : Nat) (d : D) (ρ : En), ds[i]? = some d → P i ρ → ∃ ρ1 ρ2, g d ρ = some ρ1 ∧ (b ρ1 = some (.nx ρ2) ∨ b ρ1 = some (.ct ρ2)) ∧ P (i + 1) ρ2)
    (k : ∀ ρ', forL g b ds ρ = some (.nx ρ') → P ds.length ρ' → goal) : goal := by
  obtain ⟨ρ', e, p⟩ := forL_inv P h0 hs
  exact k ρ' e p
end DL

set_option Elab.async false
set_option linter.all false
set_option maxRecDepth 100000
set_option maxHeartbeats 4000000
namespace DL
open PySem L2
/-! ### texts as lists of codes -/
def T (l : List Nat) : Str := ⟨l.toArray⟩
@[simp] theorem T_cps (l : List Nat) : (T l).cps = l.toArray := rfl
@[simp] theorem T_len (l : List Nat) : (T l).length = l.length := by show l.toArray.size = _; simp
@[simp] theorem T_app (a b : List Nat) : T a ++ T b = T (a ++ b) := by show Str.mk (a.toArray ++ b.toArray) = _; simp [T]
theorem T_one (c : Nat) : (⟨#[c]⟩ : Str) = T [c] := rfl
theorem T_inj {a b : List Nat} : T a = T b ↔ a = b := by
  constructor
  · intro h; have := congrArg (fun s : Str => s.cps.toList) h; simpa [T] using this
  · intro h; rw [h]
@[simp] theorem T_cut (l : List Nat) (lo hi : Option Int) : cutS (T l) lo hi = T (cutD l lo hi) := by
  unfold cutS cutD T; simp [Str.length]
def lettersL : List Nat := [97, 98, 99, 100, 101, 102, 103, 104, 105, 106, 107, 108, 109, 110, 111, 112, 113, 114, 115, 116, 117, 118, 119, 120, 121, 122]
theorem letter_at {i : Int} (h0 : 0 ≤ i) (h1 : i < 26) : atI lettersL i = some (97 + i.toNat) := by
  rw [atI_of h0 (by simpa [lettersL] using h1)]
  have h : i.toNat < 26 := by omega
  generalize i.toNat = k at h
  have : ∀ k : Fin 26, lettersL[k.val]? = some (97 + k.val) := by decide
  exact this ⟨k, h⟩
def IsLetter (c : Nat) : Prop := 97 ≤ c ∧ c ≤ 122
def NameL (l : List Nat) : Prop := 1 ≤ l.length ∧ l.length ≤ 8 ∧ ∀ c ∈ l, IsLetter c
theorem sIx_some {n d : Nat} {k : Int} (h0 : 0 ≤ k) : HT.sIx n d (some k) = min k.toNat n := by
  have := HT.sIx_nat n d k.toNat
  rw [show ((k.toNat : Nat) : Int) = k by omega] at this
  exact this
theorem cut_take {α : Type} (l : List α) {k : Int} (h0 : 0 ≤ k) : cutD l none (some k) = l.take k.toNat := by
  unfold cutD
  rw [HT.sIx_none, sIx_some h0]
  simp
theorem cut_drop {α : Type} (l : List α) {k : Int} (h0 : 0 ≤ k) : cutD l (some k) none = l.drop k.toNat := by
  unfold cutD
  rw [HT.sIx_none, sIx_some h0]
  by_cases h : k.toNat ≤ l.length
  · rw [Nat.min_eq_left h]; exact List.take_of_length_le (by simp)
  · rw [Nat.min_eq_right (by omega)]; simp; omega
/-- unlike things of a list are no more than it has -/
theorem nodup_le {α : Type} [DecidableEq α] : ∀ {l1 l2 : List α}, l1.Nodup → (∀ x ∈ l1, x ∈ l2) → l1.length ≤ l2.length
  | [], _, _, _ => by simp
  | x :: l1, l2, nd, h => by
    rw [List.nodup_cons] at nd
    have hx : x ∈ l2 := h x List.mem_cons_self
    have := nodup_le (l2 := l2.erase x) nd.2 fun y hy => by
      have ne : y ≠ x := fun e => nd.1 (e ▸ hy)
      exact (List.mem_erase_of_ne ne).mpr (h y (List.mem_cons_of_mem _ hy))
    rw [List.length_erase_of_mem hx] at this
    have : 0 < l2.length := List.length_pos_of_mem hx
    rw [List.length_cons]
    omega
end DL

set_option Elab.async false
set_option linter.all false
set_option maxRecDepth 100000
set_option maxHeartbeats 4000000
namespace DL
open PySem PySem.Spec PyProof.Rows L2
/-! ### slots forgotten (never those that are lent) -/
def fg1 (ρ : En) (v : Nat) : En := match ρ[v]? with
  | some (some (.ow true _)) => ρ
  | _ => ρ.set v none
def fgE (ρ : En) : List Nat → En
  | [] => ρ
  | v :: vs => fgE (fg1 ρ v) vs
theorem set_none_get {ρ : En} {v i : Nat} {x : DV} (h : (ρ.set v none)[i]? = some (some x)) : ρ[i]? = some (some x) ∧ i ≠ v := by
  by_cases e : v = i
  · subst e
    by_cases hv : v < ρ.length
    · rw [List.getElem?_set_self hv] at h; cases h
    · rw [List.getElem?_eq_none (by simpa using hv)] at h; cases h
  · rw [List.getElem?_set_ne e] at h
    exact ⟨h, fun z => e z.symm⟩
theorem Rel.fg1 {K : Kf} {G : Gh} {F H : Hp} {σ : L2.St} {ρ : En} (I : Rel K G F H σ ρ) (v : Nat) : Rel K G F H σ (DL.fg1 ρ v) := by
  unfold DL.fg1
  split
  · exact I
  · rename_i hn
    refine ⟨I.sub, by rw [List.length_set]; exact I.len, fun i dv e => I.slot i dv (set_none_get e).1, fun i j b c d e p ij e1 e2 => I.dis i j b c d e p ij (set_none_get e1).1 (set_none_get e2).1, I.keep, I.grow, I.low, fun q hq => ?_, I.lk, fun q hq => ?_, I.bx, I.nn.drop v⟩
    · obtain ⟨d, h1, h2⟩ := I.bor q hq
      refine ⟨d, ?_, h2⟩
      rw [List.getElem?_set_ne (fun z => hn d (by rw [z]; exact h1))]
      exact h1
    · obtain ⟨h1, h2, h3⟩ := I.pn q hq
      exact ⟨h1, h2, fun i b d e => h3 i b d (set_none_get e).1⟩
theorem Rel.fgE {K : Kf} {G : Gh} {F H : Hp} {σ : L2.St} : ∀ {vs : List Nat} {ρ : En}, Rel K G F H σ ρ → Rel K G F H σ (DL.fgE ρ vs)
  | [], _, I => I
  | v :: vs, _, I => Rel.fgE (vs := vs) (I.fg1 v)
def fgO (vs : List Nat) : Out → Out
  | .nx ρ => .nx (fgE ρ vs)
  | .ct ρ => .ct (fgE ρ vs)
  | .bk ρ => .bk (fgE ρ vs)
  | o => o
theorem OutOk.fg {X : Cx} {G : Gh} {F : Hp} {T : Ends} {vs : List Nat} {o : Out} (h : OutOk X G F T (fgO vs o)) : OutOk X G F T o := by
  cases o with
  | nx ρ => exact fun F2 H2 σ2 l2 I2 => h F2 H2 σ2 l2 I2.fgE
  | rt d ρ => exact h
  | rn d ρ => exact h
  | xx x ρ => exact h
  | bk ρ => exact fun F2 H2 σ2 l2 I2 => h F2 H2 σ2 l2 I2.fgE
  | ct ρ => exact fun F2 H2 σ2 l2 I2 => h F2 H2 σ2 l2 I2.fgE
/-- forgotten behind a block -/
def mFg (vs : List Nat) (m : MS) : MS := fun ρ => (m ρ).bind fun o => some (fgO vs o)
/-- .. ahead of it -/
def mFg0 (vs : List Nat) (m : MS) : MS := fun ρ => m (fgE ρ vs)
/-- .. behind the walked thing -/
def mIFg (vs : List Nat) (m : MI) : MI := fun ρ => (m ρ).bind fun p => some (p.1, fgE p.2 vs)
section
variable {X : Cx}
theorem dss_fg {vs : List Nat} {st : List Stmt} {m : MS} (h : DSs X st m) : DSs X st (mFg vs m) := pssImp h fun T σ H ⟨G, F, ρ, I, o, e, k⟩ => by
  obtain ⟨o1, e1, e⟩ := Option.bind_eq_some_iff.mp e
  cases e
  exact ⟨G, F, ρ, I, o1, e1, k.fg⟩
theorem di_fg {vs : List Nat} {tg it : Expr} {m : MI} (h : DI X tg it m) : DI X tg it (mIFg vs m) := piImp h fun σ H Q ⟨G, F, ρ, I, ds, ρ', e, k⟩ => by
  obtain ⟨⟨ds1, ρ1⟩, e1, e⟩ := Option.bind_eq_some_iff.mp e
  cases e
  exact ⟨G, F, ρ, I, ds1, ρ1, e1, fun F' H' J l I' w => k F' H' J l I'.fgE w⟩
end
@[simp] theorem ev_mFg {vs : List Nat} {m : MS} {ρ : En} : mFg vs m ρ = (m ρ).bind fun o => some (fgO vs o) := rfl
@[simp] theorem ev_mFg0 {vs : List Nat} {m : MS} {ρ : En} : mFg0 vs m ρ = m (fgE ρ vs) := rfl
@[simp] theorem ev_mIFg {vs : List Nat} {m : MI} {ρ : En} : mIFg vs m ρ = (m ρ).bind fun p => some (p.1, fgE p.2 vs) := rfl
@[simp] theorem ev_fgE_nil {ρ : En} : fgE ρ [] = ρ := rfl
@[simp] theorem ev_fgE_cons {ρ : En} {v : Nat} {vs : List Nat} : fgE ρ (v :: vs) = fgE (fg1 ρ v) vs := rfl
@[simp] theorem ev_fg1 {ρ : En} {v : Nat} : fg1 ρ v = match ρ[v]? with | some (some (.ow true _)) => ρ | _ => ρ.set v none := rfl
@[simp] theorem ev_fgO_nx {vs : List Nat} {ρ : En} : fgO vs (.nx ρ) = .nx (fgE ρ vs) := rfl
@[simp] theorem ev_fgO_ct {vs : List Nat} {ρ : En} : fgO vs (.ct ρ) = .ct (fgE ρ vs) := rfl
@[simp] theorem ev_fgO_bk {vs : List Nat} {ρ : En} : fgO vs (.bk ρ) = .bk (fgE ρ vs) := rfl
@[simp] theorem ev_fgO_rt {vs : List Nat} {d : D} {ρ : En} : fgO vs (.rt d ρ) = .rt d ρ := rfl
@[simp] theorem ev_fgO_rn {vs : List Nat} {d : D} {ρ : En} : fgO vs (.rn d ρ) = .rn d ρ := rfl
/-! ### what comes out, by what is wanted -/
def Wp {α : Type} (o : Option α) (Q : α → Prop) : Prop := ∃ a, o = some a ∧ Q a
section
variable {α β : Type} {o : Option α} {Q Q' : α → Prop} {a : α}
@[simp] theorem wp_some : Wp (some a) Q ↔ Q a := ⟨fun ⟨_, e, q⟩ => by cases e; exact q, fun q => ⟨a, rfl, q⟩⟩
@[simp] theorem wp_none : Wp none Q ↔ False := ⟨fun ⟨_, e, _⟩ => (nomatch e), fun h => h.elim⟩
@[simp] theorem wp_bind {k : α → Option β} {Q : β → Prop} : Wp (o.bind k) Q ↔ Wp o fun a => Wp (k a) Q := by
  constructor
  · rintro ⟨b, e, q⟩
    obtain ⟨a, e1, e2⟩ := Option.bind_eq_some_iff.mp e
    exact ⟨a, e1, b, e2, q⟩
  · rintro ⟨a, e1, b, e2, q⟩
    exact ⟨b, by rw [e1]; exact e2, q⟩
theorem Wp.mono (h : Wp o Q) (i : ∀ a, Q a → Q' a) : Wp o Q' := h.elim fun a ⟨e, q⟩ => ⟨a, e, i a q⟩
theorem Wp.of (e : o = some a) (q : Q a) : Wp o Q := ⟨a, e, q⟩
theorem Wp.eq (h : Wp o fun b => b = a) : o = some a := h.elim fun b ⟨e, q⟩ => q ▸ e
theorem wp_eq_iff : (o = some a) ↔ Wp o fun b => b = a := ⟨fun e => ⟨a, e, rfl⟩, Wp.eq⟩
end
def putE : En → List (Nat × DV) → En
  | ρ, [] => ρ
  | ρ, p :: r => putE (ρ.set p.1 (some p.2)) r
@[simp] theorem putE_nil {ρ : En} : putE ρ [] = ρ := rfl
@[simp] theorem putE_cons {ρ : En} {p : Nat × DV} {r : List (Nat × DV)} : putE ρ (p :: r) = putE (ρ.set p.1 (some p.2)) r := rfl
/-- a turn of a loop -/
def StepOk {S : Type} (ρ0 : En) (u : S → List (Nat × DV)) (P : S → Prop) (Q : Out → Prop) : Out → Prop
  | .nx ρ => ∃ s, ρ = putE ρ0 (u s) ∧ P s
  | .ct ρ => ∃ s, ρ = putE ρ0 (u s) ∧ P s
  | .bk ρ => Q (.nx ρ)
  | .rt d ρ => Q (.rt d ρ)
  | .rn d ρ => Q (.rn d ρ)
  | .xx x ρ => Q (.xx x ρ)
section
variable {S : Type} {ρ0 ρ : En} {u : S → List (Nat × DV)} {P : S → Prop} {Q : Out → Prop} {d : D}
@[simp] theorem stepOk_nx : StepOk ρ0 u P Q (.nx ρ) = ∃ s, ρ = putE ρ0 (u s) ∧ P s := rfl
@[simp] theorem stepOk_ct : StepOk ρ0 u P Q (.ct ρ) = ∃ s, ρ = putE ρ0 (u s) ∧ P s := rfl
@[simp] theorem stepOk_bk : StepOk ρ0 u P Q (.bk ρ) = Q (.nx ρ) := rfl
@[simp] theorem stepOk_rt : StepOk ρ0 u P Q (.rt d ρ) = Q (.rt d ρ) := rfl
@[simp] theorem stepOk_rn : StepOk ρ0 u P Q (.rn d ρ) = Q (.rn d ρ) := rfl
@[simp] theorem stepOk_xx {x : Xc} : StepOk ρ0 u P Q (.xx x ρ) = Q (.xx x ρ) := rfl
end
theorem wp_for {S : Type} (u : S → List (Nat × DV)) (P : Nat → S → Prop) {g : MG} {b : MS} {ds : List D} {ρ0 : En} {Q : Out → Prop} (s0 : S) (hE : putE ρ0 (u s0) = ρ0) (h0 : P 0 s0)
    (hs : ∀ (i : Nat) (d : D) (s : S), ds[i]? = some d → P i s → Wp (g d (putE ρ0 (u s))) fun ρ1 => Wp (b ρ1) (StepOk ρ0 u (P (i + 1)) Q)) (fin : ∀ s, P ds.length s → Q (.nx (putE ρ0 (u s)))) : Wp (forL g b ds ρ0) Q := by
  suffices h : ∀ (k : Nat) (s : S), P k s → k ≤ ds.length → Wp (forL g b (ds.drop k) (putE ρ0 (u s))) Q by
    have := h 0 s0 h0 (Nat.zero_le _)
    rw [hE] at this
    exact this
  intro k
  generalize hm : ds.length - k = m
  induction m generalizing k with
  | zero =>
    intro s hp hk
    have : k = ds.length := by omega
    subst this
    rw [List.drop_length]
    exact ⟨_, rfl, fin s hp⟩
  | succ m ih =>
    intro s hp hk
    have hlt : k < ds.length := by omega
    rw [List.drop_eq_getElem_cons hlt]
    obtain ⟨ρ1, e1, o, e2, q⟩ := hs k ds[k] s (by simp [hlt]) hp
    unfold forL
    rw [e1]
    show Wp ((b ρ1).bind _) Q
    rw [e2]
    cases o with
    | nx ρ => obtain ⟨s', rfl, hp'⟩ := q; exact ih (k + 1) (by omega) s' hp' (by omega)
    | ct ρ => obtain ⟨s', rfl, hp'⟩ := q; exact ih (k + 1) (by omega) s' hp' (by omega)
    | bk ρ => exact ⟨_, rfl, q⟩
    | rt d ρ => exact ⟨_, rfl, q⟩
    | rn d ρ => exact ⟨_, rfl, q⟩
    | xx x ρ => exact ⟨_, rfl, q⟩
/-- one item of a comprehension -/
def lc1 (g : MG) (vs : List Nat) (mt : MT) (me : ME) (d : D) (ρ : En) : Option (Option D × En) := (g d (wipeE ρ vs)).bind fun ρ1 => (mt ρ1).bind fun p => if p.1 = true then (me p.2).bind fun q => (frR q.1 q.2).bind fun x => if x.2.length = ρ.length then some (some x.1, unw ρ x.2 vs) else none
  else if p.2.length = ρ.length then some (none, unw ρ p.2 vs) else none
theorem lcL_cons {g : MG} {vs : List Nat} {mt : MT} {me : ME} {d : D} {ds : List D} {ρ : En} : lcL g vs mt me (d :: ds) ρ = (lc1 g vs mt me d ρ).bind fun p => (lcL g vs mt me ds p.2).bind fun y => some (p.1.toList ++ y.1, y.2) := by
  unfold lc1
  conv => lhs; unfold lcL
  cases g d (wipeE ρ vs) with
  | none => rfl
  | some ρ1 =>
    simp only [Option.bind_some]
    cases mt ρ1 with
    | none => rfl
    | some p =>
      obtain ⟨k, ρ2⟩ := p
      cases k with
      | true =>
        simp only [Option.bind_some, if_true]
        cases me ρ2 with
        | none => rfl
        | some q =>
          simp only [Option.bind_some]
          cases frR q.1 q.2 with
          | none => rfl
          | some x =>
            simp only [Option.bind_some]
            by_cases hl : x.2.length = ρ.length
            · rw [if_pos hl, if_pos hl]; simp
            · rw [if_neg hl, if_neg hl]; rfl
      | false =>
        simp only [Option.bind_some]
        by_cases hl : ρ2.length = ρ.length
        · simp [hl]
          cases lcL g vs mt me ds (unw ρ ρ2 vs) <;> rfl
        · simp [hl]
theorem lc_map {β : Type} {g : MG} {vs : List Nat} {mt : MT} {me : ME} (enc f : β → D) {xs : List β} {ρ : En} (h : ∀ x ∈ xs, lc1 g vs mt me (enc x) ρ = some (some (f x), ρ)) : lcL g vs mt me (xs.map enc) ρ = some (xs.map f, ρ) := by
  induction xs with
  | nil => rfl
  | cons x xs ih => rw [List.map_cons, lcL_cons, h x List.mem_cons_self]; simp [ih fun x hx => h x (List.mem_cons_of_mem _ hx)]
theorem wp_lc {S : Type} (u : S → List (Nat × DV)) (P : Nat → List D → S → Prop) {g : MG} {vs : List Nat} {mt : MT} {me : ME} {ds : List D} {ρ0 : En} {Q : List D × En → Prop} (s0 : S) (hE : putE ρ0 (u s0) = ρ0) (h0 : P 0 [] s0)
    (hs : ∀ (i : Nat) (d : D) (acc : List D) (s : S), ds[i]? = some d → P i acc s → Wp (lc1 g vs mt me d (putE ρ0 (u s))) fun p => ∃ s', p.2 = putE ρ0 (u s') ∧ P (i + 1) (acc ++ p.1.toList) s') (fin : ∀ acc s, P ds.length acc s → Q (acc, putE ρ0 (u s))) : Wp (lcL g vs mt me ds ρ0) Q := by
  suffices h : ∀ (ds : List D) (P : Nat → List D → S → Prop) (acc : List D) (s : S), P 0 acc s → (∀ (i : Nat) (d : D) (acc : List D) (s : S), ds[i]? = some d → P i acc s → Wp (lc1 g vs mt me d (putE ρ0 (u s))) fun p => ∃ s', p.2 = putE ρ0 (u s') ∧ P (i + 1) (acc ++ p.1.toList) s') →
      Wp (lcL g vs mt me ds (putE ρ0 (u s))) fun p => ∃ s', p.2 = putE ρ0 (u s') ∧ P ds.length (acc ++ p.1) s' by
    have := h ds P [] s0 h0 hs
    rw [hE] at this
    exact this.mono fun p ⟨s', e, q⟩ => by
      have := fin p.1 s' (by simpa using q)
      rw [← e] at this
      exact this
  intro ds
  induction ds with
  | nil => intro P acc s h0 _; exact ⟨_, rfl, s, rfl, by simpa using h0⟩
  | cons d ds ih =>
    intro P acc s h0 hs
    rw [lcL_cons]
    simp only [wp_bind, wp_some]
    refine (hs 0 d acc s rfl h0).mono fun p ⟨s', e, q⟩ => ?_
    rw [e]
    refine (ih (fun i => P (i + 1)) (acc ++ p.1.toList) s' q fun i d' acc s hx hp => hs (i + 1) d' acc s (by simpa using hx) hp).mono fun y ⟨s2, e2, q2⟩ => ⟨s2, e2, ?_⟩
    simpa [List.append_assoc] using q2
@[simp] theorem ev_lc1 {g : MG} {vs : List Nat} {mt : MT} {me : ME} {d : D} {ρ : En} : lc1 g vs mt me d ρ = (g d (wipeE ρ vs)).bind fun ρ1 => (mt ρ1).bind fun p => if p.1 = true then (me p.2).bind fun q => (frR q.1 q.2).bind fun x => if x.2.length = ρ.length then some (some x.1, unw ρ x.2 vs) else none
  else if p.2.length = ρ.length then some (none, unw ρ p.2 vs) else none := rfl
theorem rng1_n {n : Nat} (h : n ≤ 1000000) : rng1 [.int (n : Nat)] = some ((List.range n).map fun i => .int (i : Nat)) := by
  rw [rng1_eq, if_pos (by omega)]
  unfold rngD
  simp
/-! ### comprehensions within comprehensions -/
def rl (scope sc : Scope) : Scope := { scope with names := scope.names.map fun (n, k) => if (k == NameKind.free && sc.kind == .function && sc.names.lookup n == some .cell) then (n, NameKind.cell) else (n, k) }
end DL

set_option Elab.async false
set_option linter.all false
set_option maxRecDepth 100000
set_option maxHeartbeats 4000000
/-! enumerate of a list or a tuple -/
namespace DZ
open PySem PySem.Spec
open PySem.Sem (wp)
open AutoSeq1 (wpAny_loadPart')
theorem drawsG {prog : Program} {w : World} {A : Around} (hh : A.handled = none) (tp : Bool) (it l : Addr) (hne : l ≠ it) (items : Array Value) :
    Draws prog w A it [it, l] items.size (fun i v => items[i]? = some v) (fun i h => SIt tp h it l i ∧ SSq tp h l items) where
  live := fun _ _ st => let ⟨o, ho, _⟩ := st.1.ob; ⟨o, ho⟩
  frame := fun _ _ _ st hk => ⟨st.1.at fun o e => hk it (by simp) o e, st.2.at fun o e => hk l (by simp) o e⟩
  item := fun i s Q E hi st hQ => by
    refine next_item st.1 st.2 (x := items[i]) (by simp [hi]) fun h' hit' hs' => ?_
    exact hQ _ h' s.toks (by simp [hi]) ⟨hit', st.2.at fun o e => (hs'.2 l hne).trans e⟩ hs'
  done := fun s Q E st hE => next_end hh st.1 st.2 (by simp) hE
theorem meets_enumG (tp : Bool) (l : Addr) (items : Array Value) :
    Meets (Builtin.«enumerate.__new__» ⟨[.type "enumerate", .ref l], []⟩) (fun _ R s => SSq tp s.heap l items ∧
      R (.ok (.ret (.ref (s.heap.push { cls := .type (itName tp), data := .fields #[.ref l, .int 0 0] }).objs.size)))
        { s with heap := (s.heap.push { cls := .type (itName tp), data := .fields #[.ref l, .int 0 0] }).push { cls := .type "enumerate", data := .fields #[.none, .bool false, .ref s.heap.objs.size, rawInt 0, .none, .none] } }) :=
  .of_wp fun prog w A R s h => by
    obtain ⟨hp, g, d, tk, os⟩ := s; obtain ⟨hl, h⟩ := h
    have hsub := sub_enumerate
    cases tp with
    | true =>
      have hL : Heap.IsTuple (Shared.heap ⟨hp, g, d, tk, os⟩) l items := hl
      obtain ⟨⟨c, dct, dt, sl⟩, hl', hc, hd⟩ := hL
      have hL : Heap.IsTuple (Shared.heap ⟨hp, g, d, tk, os⟩) l items := hl
      replace hc : c = .type "tuple" := hc
      subst hc
      wp_walk using wpAny_loadPart' hl'
      refine wpAny_stack_any fun st => wpAny_pure ?_
      split
      · rename_i c _ _ _ _ _
        cases (c == Value.type "enumerate")
        · wp_walk using wpAny_loadPart' hl', wpAny_pyIter_tuple hL
          exact ⟨_, rfl, h⟩
        · wp_walk using wpAny_loadPart' hl', wpAny_pyIter_tuple hL
          exact ⟨_, rfl, h⟩
      · wp_walk using wpAny_loadPart' hl', wpAny_pyIter_tuple hL
        exact ⟨_, rfl, h⟩
    | false =>
      have hL : Heap.IsList (Shared.heap ⟨hp, g, d, tk, os⟩) l items := hl
      obtain ⟨⟨c, dct, dt, sl⟩, hl', hc, hd⟩ := hL
      have hL : Heap.IsList (Shared.heap ⟨hp, g, d, tk, os⟩) l items := hl
      replace hc : c = .type "list" := hc
      subst hc
      wp_walk using wpAny_loadPart' hl'
      refine wpAny_stack_any fun st => wpAny_pure ?_
      split
      · rename_i c _ _ _ _ _
        cases (c == Value.type "enumerate")
        · wp_walk using wpAny_loadPart' hl', wpAny_pyIter_list hL
          exact ⟨_, rfl, h⟩
        · wp_walk using wpAny_loadPart' hl', wpAny_pyIter_list hL
          exact ⟨_, rfl, h⟩
      · wp_walk using wpAny_loadPart' hl', wpAny_pyIter_list hL
        exact ⟨_, rfl, h⟩
section
variable {prog : Program} {w : World} {A : Around} {E : Value → Shared → Prop} {s : Shared}
theorem call_enumG {tp : Bool} {l : Addr} {items : Array Value} {Q : Value → Shared → Prop} (hL : SSq tp s.heap l items)
    (h : ∀ h', IsEnum h' (s.heap.objs.size + 1) s.heap.objs.size 0 .none → SIt tp h' s.heap.objs.size l 0 → h'.objs.size = s.heap.objs.size + 2 →
      (∀ b o, s.heap.get? b = some o → h'.get? b = some o) → Q (.ref (s.heap.objs.size + 1)) { s with heap := h' }) :
    wpAny (model prog w) A (call (.type "enumerate") [.ref l]) Q E s := by
  refine callType_new F.called_enumerate (by decide) (F.typeCall_enumerate_1 _) (F.newCall_enumerate_1 _) (fun obj => F.args_object_init_2 obj _) F.entry_enumerate_new
    (meets_enumG tp l items) ⟨hL, ?_⟩
  have hz : (s.heap.push { cls := .type (itName tp), data := .fields #[.ref l, .int 0 0] }).objs.size = s.heap.objs.size + 1 := Heap.size_push ..
  show _ ∧ _
  rw [hz]
  have he : IsEnum ((s.heap.push { cls := .type (itName tp), data := .fields #[.ref l, .int 0 0] }).push
      { cls := .type "enumerate", data := .fields #[.none, .bool false, .ref s.heap.objs.size, rawInt 0, .none, .none] }) (s.heap.objs.size + 1) s.heap.objs.size 0 .none := by
    have := Heap.get?_push_size (s.heap.push { cls := .type (itName tp), data := .fields #[.ref l, .int 0 0] })
      (o := { cls := .type "enumerate", data := .fields #[.none, .bool false, .ref s.heap.objs.size, rawInt 0, .none, .none] }) rfl
    rw [hz] at this; exact this
  refine ⟨⟨_, he, rfl⟩, h _ he (SIt.new tp (Heap.get?_push_of_some _ (Heap.get?_push_size _ rfl))) (by rw [Heap.size_push, hz]) fun b o x => Heap.get?_push_of_some _ (Heap.get?_push_of_some _ x)⟩
theorem enum_endG {tp : Bool} {e it l : Addr} {k : Nat} {i : Int} {items : Array Value} {old : Value} {Q : Option Value → Shared → Prop} (hh : A.in1.handled = none) (he : IsEnum s.heap e it i old) (hit : SIt tp s.heap it l k) (hL : SSq tp s.heap l items) (hn : items[k]? = none)
    (hQ : ∀ h', Heap.ExtBut it s.heap h' → Q none { s with heap := h' }) : wpAny (model prog w) A (pyNext (.ref e)) Q E s := by
  have hT : s.TypeIs (.ref e) "enumerate" := ⟨_, he, rfl⟩
  unfold pyNext
  refine wpAny_bind (wpAny_attempt (wpAny_callSpecial?_slot (name := Str.ofString "__next__") hT F.slot_enumerate_next
    (wpAny_call_entry F.slot_enumerate_next hT F.entry_enumerate_next ?_ (F.args_enumerate_next_1 _))))
  show wpAny _ _ (field (.ref e) 2 >>= _) _ _ _
  refine wpAny_bind (wpAny_field he rfl (x := .ref it) rfl ?_)
  refine wpAny_bind (next_end hh hit hL hn fun h' x he' hx' => ?_)
  obtain ⟨o, ho, hc⟩ := hx'
  refine wpAny_bind (wpAny_isInstance (T := "StopIteration") (b := true) ⟨o, ho, hc⟩ isSubtype_stop ?_)
  exact wpAny_pure (hQ _ he')
end
end DZ
namespace DL
open PySem PySem.Spec PyProof.Rows L2
def IteG (K : PySem.W.Frag) (tp : Bool) (a : Addr) : It :=
  ⟨fun i H => ∃ (xs : List V) (x : V), SqG tp K H a xs ∧ xs[i]? = some x, fun i H v H' => ∃ T x, v = .ref T ∧ H T = none ∧ H' = upd H T (.tup [.int (i : Nat), x]) ∧ ∀ xs, SqG tp K H a xs → xs[i]? = some x, fun i H => ∃ xs : List V, SqG tp K H a xs ∧ xs.length ≤ i⟩
theorem turn_enumG {P : Program} {w : World} {K : PySem.W.Frag} {elts : List Expr} {kk : Nat} {tpos : Pos} (tp : Bool) (a e it : Addr) (hai : a ≠ it) (hea : e ≠ a) :
    Turn P w K (.Tuple elts kk tpos) (IteG K tp a) [e, it] e (fun i h => (∃ old, IsEnum h e it ((i : Nat) : Int) old) ∧ DZ.SIt tp h it a i ∧ e ≠ it) where
  mem := by simp
  obj := fun i h st b hb => by
    obtain ⟨⟨old, he⟩, hit, _⟩ := st
    obtain ⟨o, ho, hd⟩ := hit.ob
    have e' : b = e ∨ b = it := by simpa using hb
    rcases e' with z | z
    · rw [z]; exact ⟨_, he, fun v q => nomatch q⟩
    · rw [z]; exact ⟨o, ho, fun v q => by rw [hd] at q; cases q⟩
  keep := fun i h h' st k => let ⟨⟨old, he⟩, hi, hne⟩ := st; ⟨⟨old, k e (by simp) _ he⟩, hi.at fun o q => k it (by simp) o q, hne⟩
  item := by
    intro X hP hw hK hc i pins s σ H E I hf st hg
    subst hP hw hK
    obtain ⟨⟨old, he⟩, hit, hne⟩ := st
    obtain ⟨xs, x, hq, hx⟩ := hg
    obtain ⟨its, rv, p, hz⟩ := seqG I hq
    obtain ⟨u, hu, ru⟩ := rv.get hx
    have hel : e < s.heap.objs.size := Heap.lt_size he
    have hil : it < s.heap.objs.size := by obtain ⟨_, q, _⟩ := hit.ob; exact Heap.lt_size q
    have hlt : i < its.toArray.size := by
      have := (List.getElem?_eq_some_iff.mp hu).1
      simpa using this
    refine wpAny_pyNext_enum_itemD (DZ.drawsG (show X.A.in1.handled = none from I.ok.hd hc) tp it a hai its.toArray) he ⟨hit, p⟩ hlt hne (by simp [hne, hea]) fun x' h' tk hPx ho hst' hT hsz hk => ?_
    have ex : x' = u := by
      have hu' : its.toArray[i]? = some u := by simpa using hu
      rw [hu'] at hPx
      exact (Option.some.inj hPx).symm
    subst ex
    refine ⟨_, rfl, wpAny_letOwnedTupleGo_enum (s := { s with heap := h', toks := tk + 1 }) ho fun h'' he' sb => ?_⟩
    have hT2 : h''.get? s.heap.objs.size = some { cls := .type "tuple", data := .seq #[.int i tk, x'] } := (sb.2 _ (Nat.ne_of_gt hel)).trans hT
    have new : ObjOk X.prog X.w (upd H s.heap.objs.size (.tup [.int (i : Nat), x])) h'' s.heap.objs.size (.tup [.int (i : Nat), x]) :=
      ⟨by show 2 ≤ sizeLine; decide, [.int i tk, x'], .cons ⟨_, rfl⟩ (.cons ru .nil), ⟨_, hT2, rfl, _, rfl⟩⟩
    have I1 : Inv X pins σ (upd H s.heap.objs.size (.tup [.int (i : Nat), x])) { s with heap := h'', toks := tk + 1 } :=
      I.turnedNew (ch := [e, it]) (fun b ob hb q => (sb.2 b (fun z => hb (by simp [z]))).trans (hk b ob (fun z => hb (by simp [z])) (fun z => hb (by simp [z])) q)) hf (Nat.le_refl _) new
    refine ⟨.ref s.heap.objs.size, _, I1, rfl, ⟨_, x, rfl, I.hok.fresh (Nat.le_refl _), rfl, fun ys hy => by rw [injG I hy hq]; exact hx⟩, ⟨⟨x', ?_⟩, hst'.1.at fun o q => (sb.2 it (Ne.symm hne)).trans q, hne⟩, fun b hb => ?_⟩
    · have e1 : ((i + 1 : Nat) : Int) = (i : Int) + 1 := by omega
      rw [e1]; exact he'
    · have hb' : b < s.heap.objs.size := by
        have e' : b = e ∨ b = it := by simpa using hb
        rcases e' with z | z
        · rw [z]; exact hel
        · rw [z]; exact hil
      rw [upd_ne (Nat.ne_of_lt hb')]
      exact (hf b hb).1
  done := by
    intro X hP hw hK hc i pins s σ H E I hf st hg
    subst hP hw hK
    obtain ⟨⟨old, he⟩, hit, hne⟩ := st
    obtain ⟨xs, hq, hx⟩ := hg
    obtain ⟨its, rv, p, hz⟩ := seqG I hq
    obtain ⟨f0, f1, f2, f3, f4, f5⟩ := hf it (by simp)
    have hl := rv.length
    exact DZ.enum_endG (show X.A.in1.handled = none from I.ok.hd hc) he hit p (by simp; omega) fun h' eb => ⟨rfl, I.turned (t' := s.toks) (fun b o hb q => eb b o hb q) f0 f1 f3 f4 f5⟩
  self := fun A i s Q E st h => let ⟨⟨_, he⟩, _⟩ := st; wpAny_pyIter_enum he h
def iEnumG (K : PySem.W.Frag) (ta : TA) : TI := fun σ H R => ta σ H fun vs H1 => ∃ tp a xs, vs = [.ref a] ∧ SqG tp K H1 a xs ∧ R (IteG K tp a) H1
theorem pi_enumG {X : Cx} {e : Expr} {ta : TA} {p pos tpos : Pos} {elts : List Expr} {kk : Nat} (hg : Gl X "enumerate") (hm : X.mg "enumerate" = none) (ha : PA X [e] ta) (hs : starEach [e] X.env = [(false, eval e X.env)] := by rfl) :
    PI X (.Tuple elts kk tpos) (.Call (.Name "enumerate" p) [e] [] pos) (iEnumG X.K ta) := by
  refine ⟨fun pins s σ H R I h => ?_⟩
  refine Call_ (ld_blt I hg hm boot_enumerate (PyProof.Rows.callWith_type1 (thn (ha.run pos pins s σ H _ I h) fun us s1 ⟨vs, H1, I1, r1, q1⟩ => ?_) hs rfl))
  obtain ⟨tp, a, xs, ex, hq, q⟩ := q1
  subst ex
  cases r1 with
  | cons r rr =>
    cases rr
    cases r
    obtain ⟨its, rv, p', hz⟩ := seqG I1 hq
    obtain ⟨oa, hoa⟩ := p'.ob
    have hal : a < s1.heap.objs.size := Heap.lt_size hoa
    refine DZ.call_enumG p' fun h' he hit hsz hk => wpAny_pyIter_enum he ?_
    have I2 : Inv X pins σ H1 { s1 with heap := h' } := I1.kept (t' := s1.toks) hk
    refine ⟨s1.heap.objs.size + 1, [s1.heap.objs.size + 1, s1.heap.objs.size], _, _, H1, rfl, I2, turn_enumG tp a (s1.heap.objs.size + 1) s1.heap.objs.size (Nat.ne_of_lt hal) (Nat.ne_of_gt (Nat.lt_succ_of_lt hal)), ⟨⟨.none, he⟩, hit, Nat.succ_ne_self _⟩, fun b hb => ?_, q⟩
    have e' : b = s1.heap.objs.size + 1 ∨ b = s1.heap.objs.size := by simpa using hb
    have hle : s1.heap.objs.size ≤ b := by
      rcases e' with z | z
      · rw [z]; exact Nat.le_add_right _ _
      · rw [z]; exact Nat.le_refl _
    exact I1.fpOk hle (I1.hok.fresh hle)
theorem walk_enumG {K : PySem.W.Frag} {tp : Bool} {a : Addr} {xs : List V} : Walk (IteG K tp a) xs.length (fun H => SqG tp K H a xs) (YPair (fun i => some (.int (i : Nat))) (fun i => xs[i]?)) := by
  refine ⟨fun i _ hi q => ⟨xs, xs[i], q, by simp [hi]⟩, fun _ q => ⟨xs, q, Nat.le_refl _⟩, fun i H v H' _ q y => ?_⟩
  obtain ⟨T, x, g1, g2, g3, g4⟩ := y
  exact ⟨T, _, x, g1, g2, g3, rfl, g4 xs q⟩
theorem enumD_eq (xs : List D) : enumD xs = xs.zipIdx.map fun p => D.tup [.int (p.2 : Nat), p.1] := by
  unfold enumD rngD
  apply List.ext_getElem?
  intro i
  by_cases h : i < xs.length
  · simp [List.getElem?_zipWith, h]
  · simp [List.getElem?_zipWith, h]
def enumI : List D → Option (List D)
  | [a] => (seqD a).bind fun xs => some (enumD xs)
  | _ => none
theorem walkD_enum {K : Kf} {L : List (Addr × HO)} {F : Hp} {tp : Bool} {a : Addr} {vs : List V} {ds : List D} (h1 : ∀ F2 H, Le F F2 → Sub F2 H → SqG tp K H a vs) (r1 : RA K F vs ds) : WalkD K L F (IteG K tp a) (enumD ds) := by
  have l1 := r1.length
  have hlen : (enumD ds).length = vs.length := by simp [enumD, l1, rngD]
  refine ⟨fun H => SqG tp K H a vs, YPair (fun i => some (.int (i : Nat))) (fun i => vs[i]?), by rw [hlen]; exact walk_enumG, fun F2 H l s _ => h1 F2 H l s, fun i F2 H v H' hi l s y => ?_⟩
  obtain ⟨T, x, y, rfl, hT, rfl, g1, g2⟩ := y
  obtain ⟨e, he, re⟩ := r1.get' g2
  cases g1
  have nw := Nw.new_ s hT (o := .tup [V.int (i : Nat), y])
  have hi' : i < ds.length := (List.getElem?_eq_some_iff.mp he).1
  refine ⟨.tup [.int (i : Nat), e], _, ?_, nw, .tup upd_same (.cons (.int _) (.cons ((re.mono l).mono nw.le) .nil))⟩
  rw [enumD_eq]
  simp [he]
section
variable {X : Cx} {tg e e2 e3 : Expr} {m : ME} {ma : MA} {p p2 q pos tpos : Pos} {elts : List Expr} {kk : Nat}
theorem di_enum (hg : Gl X "enumerate") (hm : X.mg "enumerate" = none) (ha : DA X [e] ma) (hs : starEach [e] X.env = [(false, eval e X.env)] := by rfl) :
    DI X (.Tuple elts kk tpos) (.Call (.Name "enumerate" p) [e] [] pos) (mIF enumI ma) := piImp (pi_enumG hg hm ha hs) fun σ H Q ⟨G, F, ρ, I, ds, ρ', e, k⟩ => by
  obtain ⟨⟨rs, ρ1⟩, e1, e⟩ := Option.bind_eq_some_iff.mp e
  obtain ⟨⟨xs, ρ2⟩, e2, e⟩ := Option.bind_eq_some_iff.mp e
  obtain ⟨ys, e3, e⟩ := Option.bind_eq_some_iff.mp e
  cases e
  refine ⟨G, F, ρ, I, rs, ρ1, e1, fun F1 H1 vs l1 I1 k1 => ?_⟩
  obtain ⟨F2, l2, I2, r2⟩ := I1.frs k1 e2
  match xs, r2, e3 with
  | [a], .cons ra .nil, e3 =>
    obtain ⟨as, g1, e3⟩ := Option.bind_eq_some_iff.mp e3
    cases e3
    obtain ⟨t1, a1, v1, rfl, s1, w1⟩ := ra.seqG g1
    exact ⟨t1, a1, v1, rfl, s1 F2 H1 (Same.refl _) I2.sub, k F2 H1 _ (l1.trans l2) I2 (walkD_enum s1 w1)⟩
end
@[simp] theorem ev_mIF {f : List D → Option (List D)} {ma : MA} {ρ : En} : mIF f ma ρ = (ma ρ).bind fun p => (frs p.1 p.2).bind fun q => (f q.1).bind fun xs => some (xs, q.2) := rfl
@[simp] theorem enumI_eq {a : D} : enumI [a] = (seqD a).bind fun xs => some (enumD xs) := rfl
end DL

set_option Elab.async false
set_option linter.all false
set_option maxRecDepth 100000
set_option maxHeartbeats 4000000
namespace DS
open PySem PySem.Spec PyProof.Rows L2
section
variable {prog : Program} {w : World} {A : Around} {E : Value → Shared → Prop} {s : Shared}
end
end DS

set_option Elab.async false
set_option linter.all false
set_option maxRecDepth 100000
set_option maxHeartbeats 4000000
namespace DL
open PySem PySem.Spec PyProof.Rows L2
/-! ### sorted(set(ints)) -/
/-! ### list(range(n)), tuple(range(n)) -/
def dRgL (d : D) : Option O1 := (rng1 [d]).bind fun xs => some (.newL xs)
section
variable {X : Cx} {a : Expr} {ma : ME} {p p2 q pos : Pos}
end
@[simp] theorem ev_mChain {f g : D → D → Option O1} {ma mb mc : ME} {ρ : En} : mChain f g ma mb mc ρ = (ma ρ).bind fun p => (mb p.2).bind fun q => (vw q.2 p.1).bind fun d => (vw q.2 q.1).bind fun e => (f d e).bind fun o => match o with
  | .val (.bl true) => (mc q.2).bind fun s => (vw s.2 q.1).bind fun e => (vw s.2 s.1).bind fun z => (g e z).bind fun o => some (o, s.2)
  | .val (.bl false) => some (.val (.bl false), q.2)
  | _ => none := rfl
/-! ### d.get(k, x) -/
def isDicV (ρ : En) (r : RV) : Bool := match vw ρ r with
  | some (.dic _) => true
  | some (.dit _) => true
  | _ => false
def mGet2 (mo mk mx : ME) : ME := fun ρ => (mo ρ).bind fun p => if isDicV p.2 p.1 = true then (mk p.2).bind fun q => (mx q.2).bind fun x => (vw x.2 p.1).bind fun d => (vw x.2 q.1).bind fun e => (dicGet d e).bind fun r => (frR x.1 x.2).bind fun y => some (.fz (r.getD y.1), y.2) else none
section
variable {X : Cx} {o e f : Expr} {mo mk mx : ME} {apos cpos : Pos}
end
@[simp] theorem ev_mGet2 {mo mk mx : ME} {ρ : En} : mGet2 mo mk mx ρ = (mo ρ).bind fun p => if isDicV p.2 p.1 = true then (mk p.2).bind fun q => (mx q.2).bind fun x => (vw x.2 p.1).bind fun d => (vw x.2 q.1).bind fun e => (dicGet d e).bind fun r => (frR x.1 x.2).bind fun y => some (.fz (r.getD y.1), y.2) else none := rfl
@[simp] theorem ev_isDicV {ρ : En} {r : RV} : isDicV ρ r = match vw ρ r with | some (.dic _) => true | some (.dit _) => true | _ => false := rfl
end DL

set_option Elab.async false
set_option linter.all false
set_option maxRecDepth 100000
set_option maxHeartbeats 4000000
namespace DL
open PySem PySem.Spec PyProof.Rows L2
/-! ### walks over dicts: the dict is locked while it is walked -/
/-! #### the lock -/
abbrev Gh.lk (G : Gh) (d : Addr) (o : HO) : Gh := { G with Lk := (d, o) :: G.Lk.filter fun q => decide (q.1 ≠ d) }
/-- what is known where the dict u at d is locked -/
structure Lkd (G : Gh) (F : Hp) (d : Addr) (od : Obj) (u : HO) : Prop where
  f : F d = some u
  di : isDictO u = true
  lk : ∀ q ∈ G.Lk, q.1 = d → q.2 = u
  h0 : ∀ o, G.H0 d = some o → o = u
theorem not_frz {u : HO} (h : isDictO u = true) {ob : Obj} {o : HO} : u ≠ .frz ob o := fun e => by subst e; cases h
section
variable {K : Kf} {G : Gh} {F H : Hp} {σ : L2.St} {ρ : En} {d : Addr} {od : Obj} {u : HO}
theorem Rel.nB (I : Rel K G F H σ ρ) (hf : F d = some u) : d ∉ G.X := fun hb => by
  rcases List.mem_append.mp hb with hb | hb
  case inr => rw [(I.bx d hb).2.1] at hf; cases hf
  obtain ⟨q, hq, e⟩ := List.mem_map.mp hb
  obtain ⟨x, h1, h2⟩ := I.bor q hq
  obtain ⟨v, h3, p, e3, fp, _⟩ := I.slot _ _ h1
  rw [h2] at h3; cases h3; cases e3
  rw [e, hf] at fp; cases fp
theorem Rel.lkd (I : Rel K G F H σ ρ) (hf : F d = some u) (hd : H d = some u) (di : isDictO u = true) : Lkd G F d od u :=
  ⟨hf, di, fun q hq e => by have := (I.lk q hq).1; rw [e, hd] at this; exact (Option.some.inj this).symm, fun o h => by
    rcases I.keep d o h (I.nB hf) with z | ⟨ob, z, _⟩
    · rw [hd] at z; exact (Option.some.inj z).symm
    · rw [hd] at z; exact absurd (Option.some.inj z) (not_frz di)⟩
theorem ow_ne {i : Nat} {b : Bool} {x : D} {v : V} (hf : F d = some u) (h : SlotOk K G F H i v (.ow b x)) : ∃ p, v = .ref p ∧ p ≠ d := by
  obtain ⟨p, e, fp, _⟩ := h
  exact ⟨p, e, fun z => by rw [z, hf] at fp; cases fp⟩
/-- as long as nothing but d is other -/
theorem Rel.turn {G' : Gh} {H' : Hp} (I : Rel K G F H σ ρ) (hf : F d = some u) (hH : ∀ a, a ≠ d → H' a = H a) (g1 : G'.H0 = G.H0) (g2 : G'.F0 = G.F0) (g3 : G'.B = G.B) (g4 : G'.Pn = G.Pn) (g5 : G'.Bx = G.Bx) (sd : H' d = some u ∨ ∃ ob, H' d = some (.frz ob u)) (di : isDictO u = true)
    (kp : ∀ a o, G.H0 a = some o → a ∉ G.X → H' a = some o ∨ ∃ ob, H' a = some (.frz ob o) ∧ (a, HO.frz ob o) ∈ G'.Lk) (lk : ∀ q ∈ G'.Lk, H' q.1 = some q.2 ∧ F q.1 ≠ none) : Rel K G' F H' σ ρ := by
  refine ⟨fun a o e => ?_, I.len, fun i dv e => ?_, I.dis, fun a o e hb => ?_, fun a o e => by rw [g1, g2]; exact I.grow a o e, by rw [g2]; exact I.low, fun q hq => I.bor q (by rw [← g3]; exact hq), lk, fun q hq => ?_, fun q hq => ?_, ?_⟩
  · by_cases z : a = d
    · subst z
      rw [hf] at e; cases e
      rcases sd with h | ⟨ob, h⟩
      · exact .inl h
      · exact .inr ⟨di, ob, h⟩
    · rw [hH a z]; exact I.sub a o e
  · obtain ⟨v, h1, h2⟩ := I.slot i dv e
    refine ⟨v, h1, ?_⟩
    cases dv with
    | fz x => exact h2
    | ow b x =>
      obtain ⟨p, rfl, hne⟩ := ow_ne hf h2
      obtain ⟨p', e1, fp, ob, h3, h4⟩ := h2
      cases e1
      exact ⟨p, rfl, fp, ob.mono (Same.refl _) (hH p hne), by rw [g1]; exact h3, by rw [g3]; exact h4⟩
  · rw [g1] at e
    unfold Gh.X at hb
    rw [g3, g5] at hb
    exact kp a o e hb
  · rw [g4] at hq
    obtain ⟨h1, h2, h3⟩ := I.pn q hq
    have hne : q.1 ≠ d := fun z => by rw [z, hf] at h2; cases h2
    exact ⟨by rw [hH _ hne]; exact h1, h2, h3⟩
  · rw [g5] at hq
    obtain ⟨h1, h2, h3⟩ := I.bx q hq
    have hne : q ≠ d := fun z => by rw [z, hf] at h2; cases h2
    exact ⟨by rw [g1]; exact h1, h2, by rw [hH _ hne]; exact h3⟩
  · refine I.nn.step (Same.refl _) (fun i b ds e => ⟨e, rfl⟩) (fun i b ds p1 e1 e2 => hH p1 fun z => ?_) (fun a ha => ?_) g1 g5 fun j c e a e1 e2 => .inl ⟨c, e, e1, e2⟩
    · obtain ⟨v, h1, p', e3, fp, _⟩ := I.slot i _ e1
      rw [e2] at h1; cases h1; cases e3
      rw [z, hf] at fp; cases fp
    · obtain ⟨h1, _, h3, _⟩ := I.nn.ni ha
      exact ⟨hH a (fun z => by rw [z, hf] at h1; cases h1), h1, by rw [g4]; exact h3⟩
theorem Rel.lock (I : Rel K G F H σ ρ) (hf : F d = some u) (hd : H d = some u) (di : isDictO u = true) : Rel K (G.lk d (.frz od u)) F (upd H d (.frz od u)) σ ρ := by
  have L := I.lkd (od := od) hf hd di
  refine I.turn hf (fun a ha => upd_ne ha) rfl rfl rfl rfl rfl (.inr ⟨od, upd_same⟩) di (fun a o e hb => ?_) (fun q hq => ?_)
  · by_cases z : a = d
    · subst z
      have := L.h0 o e
      subst this
      exact .inr ⟨od, upd_same, List.mem_cons_self⟩
    · rw [upd_ne z]
      rcases I.keep a o e hb with h | ⟨ob, h, hm⟩
      · exact .inl h
      · exact .inr ⟨ob, h, List.mem_cons_of_mem _ (List.mem_filter.mpr ⟨hm, decide_eq_true z⟩)⟩
  · rcases List.mem_cons.mp hq with rfl | hq
    · exact ⟨upd_same, by rw [hf]; simp⟩
    · obtain ⟨hq, hne⟩ := List.mem_filter.mp hq
      have hne : q.1 ≠ d := of_decide_eq_true hne
      exact ⟨by rw [upd_ne hne]; exact (I.lk q hq).1, (I.lk q hq).2⟩
theorem Rel.unlock (L : Lkd G F d od u) (I : Rel K (G.lk d (.frz od u)) F H σ ρ) : H d = some (.frz od u) ∧ Rel K G F (upd H d u) σ ρ := by
  have hd : H d = some (.frz od u) := (I.lk (d, .frz od u) List.mem_cons_self).1
  refine ⟨hd, I.turn L.f (fun a ha => upd_ne ha) rfl rfl rfl rfl rfl (.inl upd_same) L.di (fun a o e hb => ?_) (fun q hq => ?_)⟩
  · by_cases z : a = d
    · subst z
      have := L.h0 o e
      subst this
      exact .inl upd_same
    · rw [upd_ne z]
      rcases I.keep a o e hb with h | ⟨ob, h, hm⟩
      · exact .inl h
      · refine .inr ⟨ob, h, ?_⟩
        rcases List.mem_cons.mp hm with hm | hm
        · cases hm; exact absurd rfl z
        · exact (List.mem_filter.mp hm).1
  · by_cases z : q.1 = d
    · have := L.lk q hq z
      rw [z, upd_same, this, L.f]; simp
    · have := I.lk q (List.mem_cons_of_mem _ (List.mem_filter.mpr ⟨hq, decide_eq_true z⟩))
      exact ⟨by rw [upd_ne z]; exact this.1, this.2⟩
end
/-! #### locking, unlocking by the rules -/
def unlP (X : Cx) (P : Hp → Prop) (H' : Hp) : Prop := P H' ∨ ∃ d od u, H' d = some (.frz od u) ∧ (∀ o' u', X.H_0 d ≠ some (.frz o' u')) ∧ P (upd H' d u)
def unlE (X : Cx) (T : Ends) : Ends := ⟨fun σ' => unlP X (T.nx σ'), fun v => unlP X (T.rt v), fun σ' => unlP X (T.bk σ'), fun σ' => unlP X (T.ct σ')⟩
section
variable {X : Cx}
end
theorem wX_unl {X : Cx} {cls : Value} {dd : Option Addr} {σ : L2.St} {H : Hp} {d : Addr} {od : Obj} {u : HO} (e : H d = some (.frz od u)) (hn : ∀ o' u', X.H_0 d ≠ some (.frz o' u')) (w : wX X cls dd σ (upd H d u)) : wX X cls dd σ H := fun z s' x => by
  obtain ⟨a, B, sI, pins, σ', H', cls', d', ea, I, nb, up, sky, na, os, ag, rfl, rfl, rfl, rfl⟩ := x
  exact w z s' ⟨a, B, sI, pins, _, _, _, _, ea, I.unlock e hn, nb, up, sky, by rw [upd_ne fun q => by rw [q, e] at na; cases na]; exact na, os, ag, rfl, rfl, rfl, rfl⟩
/-- from G' one comes back to G -/
structure Back (X : Cx) (G : Gh) (F1 : Hp) (G' : Gh) : Prop where
  h0 : G'.H0 = G.H0
  back : ∀ F2 H2 σ2 ρ2, Le F1 F2 → Rel X.K G' F2 H2 σ2 ρ2 → Rel X.K G F2 H2 σ2 ρ2 ∨ ∃ d od u, H2 d = some (.frz od u) ∧ F2 d ≠ none ∧ (∀ o' u', X.H_0 d ≠ some (.frz o' u')) ∧ Rel X.K G F2 (upd H2 d u) σ2 ρ2
theorem OutOk.back {X : Cx} {G G' : Gh} {F1 : Hp} {T : Ends} {o : Out} (b : Back X G F1 G') (k : OutOk X G F1 T o) : OutOk X G' F1 (unlE X T) o := by
  cases o with
  | nx ρ =>
    intro F2 H2 σ2 l2 I2
    rcases b.back F2 H2 σ2 ρ l2 I2 with I3 | ⟨d, od, u, e, _, hn, I3⟩
    · exact .inl (k F2 H2 σ2 l2 I3)
    · exact .inr ⟨d, od, u, e, hn, k F2 _ σ2 l2 I3⟩
  | bk ρ =>
    intro F2 H2 σ2 l2 I2
    rcases b.back F2 H2 σ2 ρ l2 I2 with I3 | ⟨d, od, u, e, _, hn, I3⟩
    · exact .inl (k F2 H2 σ2 l2 I3)
    · exact .inr ⟨d, od, u, e, hn, k F2 _ σ2 l2 I3⟩
  | ct ρ =>
    intro F2 H2 σ2 l2 I2
    rcases b.back F2 H2 σ2 ρ l2 I2 with I3 | ⟨d, od, u, e, _, hn, I3⟩
    · exact .inl (k F2 H2 σ2 l2 I3)
    · exact .inr ⟨d, od, u, e, hn, k F2 _ σ2 l2 I3⟩
  | rt x ρ =>
    intro F2 H2 σ2 v l2 I2 r
    rcases b.back F2 H2 σ2 ρ l2 I2 with I3 | ⟨d, od, u, e, _, hn, I3⟩
    · exact .inl (k F2 H2 σ2 v l2 I3 r)
    · exact .inr ⟨d, od, u, e, hn, k F2 _ σ2 v l2 I3 r⟩
  | rn x ρ =>
    intro F2 H2 σ2 p l2 I2 fp ob ns hp
    rw [b.h0] at hp ns
    rcases b.back F2 H2 σ2 ρ l2 I2 with I3 | ⟨d, od, u, e, fd, hn, I3⟩
    · exact .inl (k F2 H2 σ2 p l2 I3 fp ob ns hp)
    · have hp2 : upd H2 d u p = H2 p := upd_ne fun z => fd (by rw [← z]; exact fp)
      exact .inr ⟨d, od, u, e, hn, k F2 _ σ2 p l2 I3 fp (ob.mono (Same.refl _) hp2) (ns.mono hp2 fun q hq => upd_ne fun z => fd (by rw [← z]; exact hq)) hp⟩
  | xx x ρ =>
    intro F2 H2 σ2 c dd l2 I2 xo
    rcases b.back F2 H2 σ2 ρ l2 I2 with I3 | ⟨d, od, u, e, _, hn, I3⟩
    · exact k F2 H2 σ2 c dd l2 I3 xo
    · exact wX_unl e hn (k F2 _ σ2 c dd l2 I3 xo)
section
variable {X : Cx} {elt tg iter : Expr} {ifs : List Expr} {scope : Scope} {ws : List Nat} {pos spos : Pos} {mi : MI} {g : MG} {mt : MT} {me : ME}
end
/-! #### keys, values, items -/
theorem RK.at {K : Kf} {F : Hp} : ∀ {vs : List (Key × V)} {ds : List (D × D)} {i : Nat} {k : Key} {v : V}, RK K F vs ds → vs[i]? = some (k, v) → ∃ d, ds[i]? = some (keyD k, d) ∧ R K F v d
  | _, _, _, _, _, .nil, h => by simp at h
  | _, _, 0, _, _, .cons r t, h => by simp at h; obtain ⟨rfl, rfl⟩ := h; exact ⟨_, rfl, r⟩
  | _, _, i + 1, k, v, .cons r t, h => by
    obtain ⟨d, h1, h2⟩ := RK.at (i := i) (k := k) (v := v) t (by simpa using h)
    exact ⟨d, by simpa using h1, h2⟩
theorem RT.at {K : Kf} {F : Hp} : ∀ {vs : List (List Key × V)} {ds : List (D × D)} {i : Nat} {k : List Key} {v : V}, RT K F vs ds → vs[i]? = some (k, v) → ∃ d, ds[i]? = some (.tup (k.map keyD), d) ∧ R K F v d
  | _, _, _, _, _, .nil, h => by simp at h
  | _, _, 0, _, _, .cons r t, h => by simp at h; obtain ⟨rfl, rfl⟩ := h; exact ⟨_, rfl, r⟩
  | _, _, i + 1, k, v, .cons r t, h => by
    obtain ⟨d, h1, h2⟩ := RT.at (i := i) (k := k) (v := v) t (by simpa using h)
    exact ⟨d, by simpa using h1, h2⟩
/-- a tuple that stands is frozen -/
theorem Nw.tup {F H : Hp} (s : Sub F H) {q : Addr} {vs : List V} (hq : H q = some (.tup vs)) : ∃ F', Nw F H F' H ∧ F' q = some (.tup vs) := by
  cases h : F q with
  | some o =>
    rcases s q o h with z | ⟨z, ob, z2⟩
    · rw [hq] at z; cases z; exact ⟨F, Nw.refl s, h⟩
    · rw [hq] at z2; cases z2
  | none =>
    refine ⟨upd F q (.tup vs), ⟨fun a o e => ?_, upd_le h, fun a o e => ?_, Same.refl _⟩, upd_same⟩
    · by_cases z : a = q
      · subst z; rw [upd_same] at e; cases e; exact .inl hq
      · rw [upd_ne z] at e; exact s a o e
    · by_cases z : a = q
      · subst z; rw [upd_same] at e; cases e; exact .inr (.inr ⟨⟨vs, rfl⟩, hq⟩)
      · rw [upd_ne z] at e; exact .inl e
def dKeys : D → Option (List D)
  | .dic kv => some (kv.map (·.1))
  | .dit kv => some (kv.map (·.1))
  | _ => none
def mIDic (f : D → Option (List D)) (m : ME) : MI := fun ρ => (m ρ).bind fun p => (frR p.1 p.2).bind fun q => (f q.1).bind fun ds => some (ds, q.2)
@[simp] theorem ev_mIDic {f : D → Option (List D)} {m : ME} {ρ : En} : mIDic f m ρ = (m ρ).bind fun p => (frR p.1 p.2).bind fun q => (f q.1).bind fun ds => some (ds, q.2) := rfl
@[simp] theorem dKeys_dic {kv : List (D × D)} : dKeys (.dic kv) = some (kv.map (·.1)) := rfl
@[simp] theorem dKeys_dit {kv : List (D × D)} : dKeys (.dit kv) = some (kv.map (·.1)) := rfl
end DL

set_option Elab.async false
set_option linter.all false
set_option maxRecDepth 100000
set_option maxHeartbeats 4000000
namespace DZ
open PySem PySem.Spec L2
open PySem.Sem (wp)
open AutoSeq1 (wpAny_loadPart')
theorem tuple_mul1 (l : Addr) (items : Array Value) (n : Nat) (dd : Option Addr) (sl : Array (Option Value)) (u : Tok) :
    Meets (Builtin.«tuple.__mul__» ⟨[.ref l, .int 1 u], []⟩) (fun _ R s => s.heap.get? l = some { cls := .type "tuple", dict := dd, data := .seq items n, slots := sl } ∧ R (.ok (.ret (.ref l))) s) :=
  .of_wp fun prog w A R s h => by
    obtain ⟨hp, g, d, tk, os⟩ := s
    obtain ⟨hl, h⟩ := h
    have f1 := AutoSeq1.idx_int
    wp_walk using wpAny_loadPart' hl
    exact ⟨_, rfl, h⟩
end DZ
namespace DL
open PySem PySem.Spec PyProof.Rows L2
/-! ### a tuple once -/
def rRep1 (K : PySem.W.Frag) : R2 := fun x y H Q => ∃ l xs, x = .ref l ∧ y = .int 1 ∧ SqT K H l xs ∧ Q (.ref l) H
theorem op_rep1 {X : Cx} : OpR X (binaryOp .Mult) (rRep1 X.K) := by
  intro pins s σ H x y v u Q I rx ry h
  obtain ⟨l, xs, rfl, rfl, hT, q⟩ := h
  cases rx
  obtain ⟨t, rfl⟩ := ry
  obtain ⟨its, r, ⟨⟨cls, dd, data, sl⟩, ho, hc, n, hd⟩, hs⟩ := I.tuple hT
  simp only at hc hd
  subst hc hd
  refine wpAny_binaryOp_repeat_ref (T := "tuple") (U := "int") (by decide) ⟨_, ho, rfl⟩ (fun s' => typeIs_int s' 1 t) noFill_tuple_mul F.fills_int_mul F.slot_int_rmul repeat_tuple F.slot_int_index.lookup
    (call_meets F.slot_int_rmul (typeIs_int s 1 t) F.entry_int_rmul (F.args_int_rmul_2 _ _) (int_rmul_tuple 1 t l its.toArray n dd sl)
      ⟨ho, rfl, ⟨_, ho, rfl⟩, call_meets F.slot_tuple_mul ⟨_, ho, rfl⟩ F.entry_tuple_mul (F.args_tuple_mul_2 _ _) (DZ.tuple_mul1 l its.toArray n dd sl t) ⟨ho, ?_⟩⟩)
  exact ⟨.ref l, H, I, rfl, q⟩
def dMulT : D → D → Option O1
  | .tup x, .int k => if k = 1 then some (.val (.tup x)) else dMulS (.tup x) (.int k)
  | d, e => dMulS d e
theorem do_mulT {X : Cx} {a b : Expr} {ma mb : ME} {pos : Pos} (ha : DE X a ma) (hb : DE X b mb) : DO X (.BinOp a .Mult b pos) (mOp dMulT ma mb) := do_op ((op_mulAll.or op_mulStr).or op_rep1) (fun F H x y d e o Q s a b eo k => by
  by_cases hd : ∃ z, d = .tup z ∧ e = .int 1
  · obtain ⟨z, rfl, rfl⟩ := hd
    have e1 : dMulT (.tup z) (.int 1) = some (.val (.tup z)) := rfl
    rw [e1] at eo
    cases eo
    obtain ⟨p, vs, rfl, h1, r, hf⟩ := a
    exact .inr ⟨p, vs, rfl, b, .of h1, k _ (.tup hf r)⟩
  · have e1 : dMulT d e = dMulS d e := by
      unfold dMulT
      split
      · rename_i x k
        split
        · rename_i hk; exact absurd ⟨x, rfl, by rw [hk]⟩ hd
        · rfl
      · rfl
    rw [e1] at eo
    exact .inl (opd_mulS F H x y d e o Q s a b eo k)) ha hb
@[simp] theorem dMulT_int {i j : Int} : dMulT (.int i) (.int j) = if mulOk i j = true then some (.val (.int (i * j))) else none := rfl
@[simp] theorem dMulT_lst {ds : List D} {j : Int} : dMulT (.lst ds) (.int j) = if 0 ≤ j ∧ j ≤ 1000 ∧ ds.length ≤ 1000 then some (.newL (List.replicate j.toNat ds).flatten) else none := rfl
@[simp] theorem dMulT_str {x : Str} {j : Int} : dMulT (.str x) (.int j) = if 0 ≤ j ∧ j ≤ 1000 ∧ x.length ≤ 1000 then some (.val (.str (Txt.mul x j))) else none := rfl
/-- two tuples put together -/
theorem dAdd_tup {x y : List D} (h : x.length + y.length ≤ cap) : ∃ o, dAdd (.tup x) (.tup y) = some o ∧ o.d = .tup (x ++ y) ∧ ownO o = .fz (.tup (x ++ y)) := by
  have e0 : dAdd (.tup x) (.tup y) = if x.length + y.length ≤ cap then some (if x.isEmpty then .val (.tup y) else if y.isEmpty then .val (.tup x) else .newT (x ++ y)) else none := rfl
  rw [e0, if_pos h]
  cases x with
  | nil => exact ⟨_, rfl, rfl, rfl⟩
  | cons a x =>
    cases y with
    | nil => exact ⟨_, rfl, by simp, by simp⟩
    | cons b y => exact ⟨_, rfl, rfl, rfl⟩
/-- a slice of a tuple -/
theorem dSl_tup {ds : List D} {lo hi : Option Int} : ∃ o, dSl (.tup ds) lo hi = some o ∧ o.d = .tup (cutD ds lo hi) ∧ ownO o = .fz (.tup (cutD ds lo hi)) := by
  unfold dSl
  refine ⟨_, rfl, ?_⟩
  split
  · rename_i h
    have e : cutD ds lo hi = ds := by
      unfold cutD
      rw [h.1, h.2]; simp
    rw [e]; exact ⟨rfl, rfl⟩
  · exact ⟨rfl, rfl⟩
end DL

set_option Elab.async false
set_option linter.all false
set_option maxRecDepth 100000
set_option maxHeartbeats 4000000
namespace DL
open PySem PySem.Spec PyProof.Rows L2
/-! ### a list or a tuple taken apart -/
def mGSeq (n : Nat) (ms : MGs) : MG := fun d ρ => match d with
  | .tup ds => if ds.length = n then ms ds ρ else none
  | .tpl ds => if ds.length = n then ms ds ρ else none
  | .lst ds => if ds.length = n then ms ds ρ else none
  | _ => none
@[simp] theorem ev_mGSeq_tup {n : Nat} {ms : MGs} {ds : List D} {ρ : En} : mGSeq n ms (.tup ds) ρ = if ds.length = n then ms ds ρ else none := rfl
@[simp] theorem ev_mGSeq_lst {n : Nat} {ms : MGs} {ds : List D} {ρ : En} : mGSeq n ms (.lst ds) ρ = if ds.length = n then ms ds ρ else none := rfl
end DL

set_option Elab.async false
set_option linter.all false
set_option maxRecDepth 100000
set_option maxHeartbeats 4000000
namespace DZ
open PySem PySem.Spec PyProof.Rows HT
open PySem.Sem (wp)
section
variable {prog : Program} {w : World} {A : Around} {E : Value → Shared → Prop} {s : Shared}
theorem adjust_back (n : Nat) : Builtin.Slice.sliceAdjust none none (-1) (n : Int) = ((n : Int) - 1, -1) := by
  unfold Builtin.Slice.sliceAdjust
  rfl
theorem places_back (n : Nat) : Builtin.Slice.slicePlaces ((n : Int) - 1) (-1) (-1) = n := by
  unfold Builtin.Slice.slicePlaces
  rw [if_neg (by omega)]
  split
  · rw [show (-(-1) : Int) = 1 by rfl, Int.ediv_one]; omega
  · omega
theorem applied_back {sl : Addr} {n : Nat} {t : Tok} {Q : Int × Int × Nat → Shared → Prop} (hs : s.heap.IsSliceOf sl .none .none (.int (-1) t)) (h : Q ((n : Int) - 1, -1, n) s) : wpAny (model prog w) A (Builtin.Slice.sliceApplied (.ref sl) (pure (n : Int))) Q E s := by
  obtain ⟨os, g1, _, g3⟩ := id hs
  unfold Builtin.Slice.sliceApplied Builtin.Slice.sliceFields
  refine wpAny_bind (wpAny_bind (wpAny_field g1 g3 (x := .none) rfl (wpAny_bind (wpAny_field g1 g3 (x := .none) rfl (wpAny_bind (wpAny_field g1 g3 (x := .int (-1) t) rfl (wpAny_pure ?_)))))))
  refine wpAny_bind (slicePart_ (.int (-1) t) ?_)
  show wpAny _ _ (if ((-1 : Int) == 0) = true then _ else _) _ _ s
  rw [if_neg (by decide)]
  refine wpAny_bind (slicePart_ .none (wpAny_bind (slicePart_ .none (wpAny_bind (wpAny_pure ?_)))))
  show wpAny _ _ (match Builtin.Slice.sliceAdjust none none (-1) (n : Int) with | (lo, hi) => pure (lo, (-1 : Int), Builtin.Slice.slicePlaces lo hi (-1))) _ _ s
  rw [adjust_back]
  show wpAny _ _ (pure ((n : Int) - 1, (-1 : Int), Builtin.Slice.slicePlaces ((n : Int) - 1) (-1) (-1))) _ _ s
  rw [places_back]
  exact wpAny_pure h
theorem fm_congr {α β : Type} {f g : α → Option β} : ∀ {l : List α}, (∀ x ∈ l, f x = g x) → l.filterMap f = l.filterMap g
  | [], _ => rfl
  | a :: l, h => by
    rw [List.filterMap_cons, List.filterMap_cons, h a List.mem_cons_self, fm_congr fun x hx => h x (List.mem_cons_of_mem _ hx)]
theorem pick_back (xs : Array Value) : ((List.range xs.size).filterMap fun (k : Nat) => xs[((xs.size : Int) - 1 + (k : Int) * (-1)).toNat]?).toArray = xs.toList.reverse.toArray := by
  congr 1
  have e : ∀ k ∈ List.range xs.size, xs[((xs.size : Int) - 1 + (k : Int) * (-1)).toNat]? = xs.toList.reverse[k]? := fun k hk => by
    have hk := List.mem_range.mp hk
    rw [show ((xs.size : Int) - 1 + (k : Int) * (-1)).toNat = xs.size - 1 - k by omega, List.getElem?_reverse (by simpa using hk)]
    simp
  rw [fm_congr e]
  apply List.ext_getElem?
  intro i
  have hf : (List.range xs.size).filterMap (fun k => xs.toList.reverse[k]?) = xs.toList.reverse := by
    generalize hl : xs.toList.reverse = l
    have hn : xs.size = l.length := by rw [← hl]; simp
    rw [hn]
    clear hl hn e
    induction l with
    | nil => rfl
    | cons a l ih =>
      rw [List.length_cons, List.range_succ_eq_map, List.filterMap_cons]
      simp [List.filterMap_map, Function.comp_def, ih]
  rw [hf]
theorem tuple_back {t sl : Addr} {items : Array Value} {tk : Tok} {Q : Value → Shared → Prop} (ht : IsTup s.heap t items) (hs : s.heap.IsSliceOf sl .none .none (.int (-1) tk))
    (h : Q (.ref s.heap.objs.size) { s with heap := s.heap.push { cls := .type "tuple", data := .seq items.toList.reverse.toArray } }) (hsz : items.size ≤ sizeLine) : wpAny (model prog w) A (getItem (.ref t) (.ref sl)) Q E s := by
  have fits : sizeOk (.seq items.toList.reverse.toArray) := by
    show items.toList.reverse.toArray.size ≤ sizeLine
    simpa using hsz
  obtain ⟨os, g1, g2, g3⟩ := id hs
  have hT : s.TypeIs (.ref sl) "slice" := ⟨os, g1, g2⟩
  unfold getItem
  try with_reducible refine wpAny_holding ?_
  first | refine wpAny_bind (wpAny_pure ?_) | skip
  refine wpAny_bind (wpAny_sequenceKey ht.typeIs (by decide) ?_)
  refine wpAny_bind (wpAny_callSpecial?_slot (name := Str.ofString "__getitem__") ht.typeIs PyProof.Rows.slot_tuple_getitem (wpAny_call_entry PyProof.Rows.slot_tuple_getitem ht.typeIs entry_tuple_getitem ?_ (args_tuple_getitem _ _)))
  show wpAny _ _ (Builtin.Tuple.tupleItemsOf (.ref t) >>= _) _ _ s
  refine wpAny_bind (tupleItemsOf_ ht (wpAny_bind (wpAny_typeOf hT ?_)))
  rw [if_pos (by decide)]
  refine wpAny_bind (applied_back hs ?_)
  have no : ¬ ((((items.size : Int) - 1) == 0 && (-1 : Int) == 1 && items.size == items.size) = true) := by simp
  show wpAny _ _ (if ((((items.size : Int) - 1) == 0 && (-1 : Int) == 1 && items.size == items.size) = true) then _ else _) _ _ s
  rw [if_neg no, pick_back]
  first
    | exact wpAny_bind (m := Builtin.Tuple.tupleExact _) (wpAny_newObj_type (wpAny_pure ⟨_, rfl, wpAny_pure h⟩) fits)
    | exact wpAny_bind (wpAny_bind (m := Builtin.Tuple.tupleExact _) (wpAny_newObj_type (wpAny_pure ⟨_, rfl, wpAny_pure h⟩) fits))
    | exact wpAny_bind (m := Builtin.Tuple.tupleExact _) (wpAny_newObj_type (wpAny_bind (wpAny_pure (wpAny_pure ⟨_, rfl, wpAny_pure h⟩))) fits)
    | exact wpAny_bind (wpAny_bind (m := Builtin.Tuple.tupleExact _) (wpAny_newObj_type (wpAny_pure (wpAny_pure ⟨_, rfl, wpAny_pure h⟩)) fits))
end
end DZ
namespace DL
open PySem PySem.Spec PyProof.Rows L2
/-! ### a tuple from behind -/
def tRevT (K : PySem.W.Frag) (te : TE) : TE := fun σ H Q => te σ H fun x H1 => ∃ a xs, x = .ref a ∧ SqT K H1 a xs ∧ ∀ p, H1 p = none → Q (.ref p) (upd H1 p (.tup xs.reverse))
theorem pe_revT {X : Cx} {e : Expr} {te : TE} {k : Nat} {p1 p2 p3 pos : Pos} (he : PE X e te) : PE X (.Subscript e (.Slice none none (some (.UnaryOp .USub (.Constant (.int 1) k p1) p2)) p3) pos) (tRevT X.K te) := by
  refine ⟨fun pins s σ H Q I h => ?_⟩
  refine Subscript_ (thn (he.run pins s σ H _ I h) fun v s1 ⟨x, H1, I1, r1, q1⟩ => ?_)
  obtain ⟨a, xs, rfl, hx, q⟩ := q1
  cases r1
  refine wpAny_Slice (thn (po_none.run pins s1 σ H1 (fun o H2 => o = none ∧ H2 = H1) I1 ⟨rfl, rfl⟩) fun vl s2 ⟨l, H2, I2, pl, el, e2⟩ => ?_)
  subst el e2
  refine thn (po_none.run pins s2 σ H2 (fun o H3 => o = none ∧ H3 = H2) I2 ⟨rfl, rfl⟩) fun vu s3 ⟨u, H3, I3, pu, eu, e3⟩ => ?_
  subst eu e3
  refine thn ((po_some (pe_un un_neg pe_int) : PO X (some (.UnaryOp .USub (.Constant (.int 1) k p1) p2)) (tPart (tUn (rU fun i => .int (-i)) (tC (.int 1))))).run pins s3 σ H3 (fun o H4 => o = some (-1) ∧ H4 = H3) I3 ⟨1, rfl, -1, rfl, rfl, rfl⟩) fun vs s4 ⟨o, H4, I4, ps, eo, e4⟩ => ?_
  subst eo e4
  cases pl
  cases pu
  cases ps with
  | int _ tk =>
  have I5 : Inv X pins σ H4 { s4 with heap := s4.heap.push { cls := .type "slice", data := .fields #[.none, .none, .int (-1) tk] } } := I4.kept (t' := s4.toks) fun b ob q => Heap.get?_push_of_some _ q
  obtain ⟨its, r, ht, hz⟩ := I5.tuple hx
  have hlen := r.length
  show wpAny (model X.prog X.w) X.A (subscriptTail e (.Slice none none (some (.UnaryOp .USub (.Constant (.int 1) k p1) p2)) p3) (.ref a) (.ref s4.heap.objs.size)) (EP X pins σ Q) X.xe { s4 with heap := s4.heap.push { cls := .type "slice", data := .fields #[.none, .none, .int (-1) tk] } }
  refine tail_any (ops := [.ref a, .ref s4.heap.objs.size]) ht.typeIs (PyProof.Rows.slot_tuple_getitem.lookup) ?_ (by with_unfolding_all rfl)
  refine DZ.tuple_back ht (Heap.IsSliceOf.new _ .none .none (.int (-1) tk)) ?_ (by rw [List.size_toArray]; omega)
  refine ⟨.ref _, _, I5.laid (t' := s4.toks) (o := .tup xs.reverse) (fun b ob q => Heap.get?_push_of_some _ q) (Nat.le_refl _) ?_, rfl, q _ (I5.hok.fresh (Nat.le_refl _))⟩
  exact ⟨by rw [List.length_reverse]; exact hz, _, r.reverse, IsTup.new _ _⟩
def dRevT : D → Option O1
  | .tup ds => some (.newT ds.reverse)
  | .tpl ds => some (.newT ds.reverse)
  | d => dRev d
theorem do_revT {X : Cx} {pos : Pos} {e : Expr} {m : ME} {k : Nat} {p1 p2 p3 : Pos} (he : DE X e m) : DO X (.Subscript e (.Slice none none (some (.UnaryOp .USub (.Constant (.int 1) k p1) p2)) p3) pos) (mUn dRevT m) :=
  peImp (peOr (pe_revT he) (do_rev he)) fun σ H Q w => by
    obtain ⟨G, F, ρ, I, o, ρ', e, k⟩ := w
    obtain ⟨⟨r1, ρ1⟩, e1, e⟩ := Option.bind_eq_some_iff.mp e
    obtain ⟨d, e2, e⟩ := Option.bind_eq_some_iff.mp e
    obtain ⟨o1, e3, e⟩ := Option.bind_eq_some_iff.mp e
    cases e
    by_cases hd : ∃ ds, d = .tup ds
    · obtain ⟨ds, rfl⟩ := hd
      cases e3
      refine .inl ⟨G, F, ρ, I, r1, _, e1, fun F1 H1 v l1 I1 k1 => ?_⟩
      obtain ⟨a, vs, rfl, h1, r, hf⟩ := I1.vw k1 e2
      exact ⟨a, vs, rfl, .of h1, fun p hp => k F1 H1 l1 I1 p _ hp r.reverse⟩
    · by_cases hd2 : ∃ ds, d = .tpl ds
      · obtain ⟨ds, rfl⟩ := hd2
        cases e3
        refine .inl ⟨G, F, ρ, I, r1, _, e1, fun F1 H1 v l1 I1 k1 => ?_⟩
        obtain ⟨a, ob, vs, rfl, h1, _, r, hf⟩ := I1.vw k1 e2
        exact ⟨a, vs, rfl, .inl (.inr ⟨_, h1⟩), fun p hp => k F1 H1 l1 I1 p _ hp r.reverse⟩
      have e4 : dRevT d = dRev d := by cases d <;> first | rfl | exact absurd ⟨_, rfl⟩ hd | exact absurd ⟨_, rfl⟩ hd2
      rw [e4] at e3
      exact .inr ⟨G, F, ρ, I, o, _, by unfold mUn; rw [e1]; simp [e2, e3], k⟩
@[simp] theorem dRevT_tup {ds : List D} : dRevT (.tup ds) = some (.newT ds.reverse) := rfl
@[simp] theorem dRevT_lst {ds : List D} : dRevT (.lst ds) = some (.newL ds.reverse) := rfl
end DL

set_option Elab.async false
set_option linter.all false
set_option maxRecDepth 100000
set_option maxHeartbeats 4000000
namespace DL
open PySem PySem.Spec PyProof.Rows L2
/-! ### all(t), t a tuple of truths -/
end DL

set_option Elab.async false
set_option linter.all false
set_option maxRecDepth 100000
set_option maxHeartbeats 4000000
namespace DL
open PySem PySem.Spec PyProof.Rows L2
/-! ### tuple(d.values()) -/
section
variable {prog : Program} {w : World} {A : Around} {E : Value → Shared → Prop} {s : Shared} {N : String} {r d : Addr} {n : Nat} {P : Nat → Value → Prop} {OK : Heap → Prop}
end
def dTupVals : D → Option O1
  | .dic kv => some (.newT (kv.map Prod.snd))
  | _ => none
@[simp] theorem dTupVals_dic {kv : List (D × D)} : dTupVals (.dic kv) = some (.newT (kv.map Prod.snd)) := rfl
end DL

set_option Elab.async false
set_option linter.all false
set_option maxRecDepth 100000
set_option maxHeartbeats 4000000
namespace DL
open PySem L2
/-! ### reckoning -/
section
variable {ρ : En} {ma mb : ME}
@[simp] theorem ev_mCX {mf : List D → Option D} {xf : List D → Option Xc} {m : MA} : mCX mf xf m ρ = (m ρ).bind fun p => (frs p.1 p.2).bind fun q => (callX mf xf q.1).bind fun r => some (r, q.2) := rfl
@[simp] theorem ev_mSetC {i : Nat} {m : MC} : mSetC i m ρ = (m ρ).bind fun p => match p.1 with | .inl d => (setE i (.fz d) p.2).bind fun ρ' => some (.nx ρ') | .inr x => some (.xx x p.2) := rfl
@[simp] theorem ev_mDropC {m : MC} : mDropC m ρ = (m ρ).bind fun p => match p.1 with | .inl _ => some (.nx p.2) | .inr x => some (.xx x p.2) := rfl
@[simp] theorem ev_mAsgC {m : MC} {g : MG} : mAsgC m g ρ = (m ρ).bind fun p => match p.1 with | .inl d => (g d p.2).bind fun ρ' => some (.nx ρ') | .inr x => some (.xx x p.2) := rfl
@[simp] theorem ev_mRetC {m : MC} : mRetC m ρ = (m ρ).bind fun p => match p.1 with | .inl d => some (.rt d p.2) | .inr x => some (.xx x p.2) := rfl
@[simp] theorem ev_mRaise0 {c : Nat} : mRaise0 c ρ = some (.xx (c, []) ρ) := rfl
@[simp] theorem ev_mRaise1 {c : Nat} {f : Str} : mRaise1 c f ma ρ = (ma ρ).bind fun p => (frR p.1 p.2).bind fun q => if okX q.1 = true then some (.xx (c, [(f, q.1)]) q.2) else none := rfl
@[simp] theorem ev_mTry {i j : Nat} {cs : List (Nat × Bool)} {b : MS} : mTry i j cs b ρ = (b ρ).bind (tryO i j cs) := rfl
@[simp] theorem ev_tryO_nx {i j : Nat} {cs : List (Nat × Bool)} : tryO i j cs (.nx ρ) = some (.nx ρ) := rfl
@[simp] theorem ev_tryO_rt {i j : Nat} {cs : List (Nat × Bool)} {d : D} : tryO i j cs (.rt d ρ) = some (.rt d ρ) := rfl
@[simp] theorem ev_tryO_xx {i j : Nat} {cs : List (Nat × Bool)} {x : Xc} : tryO i j cs (.xx x ρ) = match cs.lookup x.1 with | some true => if isUn ρ i = true then (setE j (.fz (.exc x.1 x.2)) ρ).bind fun ρ' => some (.nx ρ') else none | some false => some (.xx x ρ) | none => none := rfl
@[simp] theorem ev_isUn {i : Nat} : isUn ρ i = match ρ[i]? with | some none => true | _ => false := rfl
@[simp] theorem ev_mIsX {cs : List (Nat × Bool)} : mIsX cs ma ρ = (ma ρ).bind fun p => (vw p.2 p.1).bind fun d => (isX cs d).bind fun o => some (o, p.2) := rfl
@[simp] theorem ev_isX {cs : List (Nat × Bool)} {c : Nat} {fs : List (Str × D)} : isX cs (.exc c fs) = (cs.lookup c).bind fun b => some (.val (.bl b)) := rfl
@[simp] theorem ev_mFieldX {f : Str} {cs : List Nat} : mFieldX f cs ma ρ = (ma ρ).bind fun p => (vw p.2 p.1).bind fun d => (fieldX f cs d).bind fun r => some (.fz r, p.2) := rfl
@[simp] theorem ev_fieldX {f g : Str} {cs : List Nat} {c : Nat} {d : D} : fieldX f cs (.exc c [(g, d)]) = if g = f ∧ c ∈ cs then some d else none := rfl
@[simp] theorem ev_mL1 {f : D → D → Option O1} : mL1 f ma mb ρ = (ma ρ).bind fun p => (vw p.2 p.1).bind fun d0 => if isLst d0 = true then (mb p.2).bind fun q => (vw q.2 p.1).bind fun d => (vw q.2 q.1).bind fun e => (f d e).bind fun o => some (o, q.2) else none := rfl
@[simp] theorem ev_fgO_xx {vs : List Nat} {x : Xc} : fgO vs (.xx x ρ) = .xx x ρ := rfl
end
/-! ### a mirror that tells no less -/
def MLe (m m' : MS) : Prop := ∀ ρ o, m ρ = some o → m' ρ = some o
theorem MLe.refl (m : MS) : MLe m m := fun _ _ h => h
section
variable {mf : List D → Option D} {xf : List D → Option Xc} {ma : MA} {ρ : En} {o : Out}
end
end DL
namespace DL
open PySem L2
/-- a turn, by the whole state -/
def StepE (P : En → Prop) (Q : Out → Prop) : Out → Prop
  | .nx ρ => P ρ
  | .ct ρ => P ρ
  | .bk ρ => Q (.nx ρ)
  | .rt d ρ => Q (.rt d ρ)
  | .rn d ρ => Q (.rn d ρ)
  | .xx x ρ => Q (.xx x ρ)
section
variable {ρ : En} {P : En → Prop} {Q : Out → Prop} {d : D} {x : Xc}
@[simp] theorem stepE_nx : StepE P Q (.nx ρ) = P ρ := rfl
@[simp] theorem stepE_ct : StepE P Q (.ct ρ) = P ρ := rfl
@[simp] theorem stepE_bk : StepE P Q (.bk ρ) = Q (.nx ρ) := rfl
@[simp] theorem stepE_rt : StepE P Q (.rt d ρ) = Q (.rt d ρ) := rfl
@[simp] theorem stepE_rn : StepE P Q (.rn d ρ) = Q (.rn d ρ) := rfl
@[simp] theorem stepE_xx : StepE P Q (.xx x ρ) = Q (.xx x ρ) := rfl
end
end DL
namespace DL
open PySem L2
section
variable {c : Nat} {fs : List (Str × D)} {ds : List D} {x : Str}
@[simp] theorem dIsNot_exc : dIsNot (.exc c fs) .non = some (.val (.bl true)) := rfl
@[simp] theorem dIsNot_non' : dIsNot .non .non = some (.val (.bl false)) := rfl
@[simp] theorem dIsNot_tup' : dIsNot (.tup ds) .non = some (.val (.bl true)) := rfl
@[simp] theorem dIsNot_lst' : dIsNot (.lst ds) .non = some (.val (.bl true)) := rfl
@[simp] theorem dIs_exc : dIs (.exc c fs) .non = some (.val (.bl false)) := rfl
end
end DL

set_option Elab.async false
set_option linter.all false
set_option maxRecDepth 100000
set_option maxHeartbeats 4000000
namespace DL
open PySem PySem.Spec PyProof.Rows L2
/-! ### is True, is not False -/
def dIsB : D → D → Option O1
  | .bl a, .bl b => some (.val (.bl (decide (a = b))))
  | _, _ => none
def dIsNotB : D → D → Option O1
  | .bl a, .bl b => some (.val (.bl (!decide (a = b))))
  | _, _ => none
section
variable {X : Cx} {a b : Expr} {ma mb : ME} {pos : Pos}
end
@[simp] theorem ev_dIsB {p q : Bool} : dIsB (.bl p) (.bl q) = some (.val (.bl (decide (p = q)))) := rfl
@[simp] theorem ev_dIsNotB {p q : Bool} : dIsNotB (.bl p) (.bl q) = some (.val (.bl (!decide (p = q)))) := rfl
end DL

set_option Elab.async false
set_option linter.all false
set_option maxRecDepth 100000
set_option maxHeartbeats 4000000
namespace DL
open PySem PySem.Spec PyProof.Rows L2
/-! ### tuple(zip(a, b)) -/
/-- pairs laid one behind the other -/
inductive ZL : Hp → List (V × V) → List Addr → Hp → Prop
  | nil {H : Hp} : ZL H [] [] H
  | cons {H H' : Hp} {T : Addr} {p : V × V} {ps : List (V × V)} {Ts : List Addr} : H T = none → ZL (upd H T (.tup [p.1, p.2])) ps Ts H' → ZL H (p :: ps) (T :: Ts) H'
theorem rd_upd {H : Hp} {a T : Addr} {u o : HO} (h : Rd H a u) (n : H T = none) : Rd (upd H T o) a u := by
  have k : ∀ {v : HO}, H a = some v → upd H T o a = some v := fun {v} e => by
    by_cases q : a = T
    · rw [q, n] at e; cases e
    · exact (upd_ne q).trans e
  rcases h with h | ⟨w, h⟩
  · exact .inl (k h)
  · exact .inr ⟨w, k h⟩
theorem SqG.upd : ∀ {t : Bool} {K : PySem.W.Frag} {H : Hp} {a T : Addr} {xs : List V} {o : HO}, SqG t K H a xs → H T = none → SqG t K (upd H T o) a xs
  | true, K, H, a, T, xs, o, .inl h, n => .inl (rd_upd h n)
  | true, K, H, a, T, xs, o, .inr h, n => .inr h
  | false, K, H, a, T, xs, o, .inl h, n => .inl (rd_upd h n)
  | false, K, H, a, T, xs, o, .inr h, n => .inr h
def ZS (t1 t2 : Bool) (z TI TO i1 i2 a b S : Addr) (i : Nat) (h : Heap) : Prop :=
  IsPair h TI (.ref i1) (.ref i2) ∧ DZ.SIt t1 h i1 a i ∧ DZ.SIt t2 h i2 b i ∧ (∃ x y, IsPair h TO x y) ∧
    (IsZip h z TI TO .none ∨ ∃ T f oT, IsZipHeld h z TI TO T f ∧ h.get? T = some oT ∧ T ≠ z ∧ T ≠ i1 ∧ T ≠ i2 ∧ T ≠ S)
theorem ZS.at {t1 t2 : Bool} {z TI TO i1 i2 a b S : Addr} {i : Nat} {h h' : Heap} (q : ZS t1 t2 z TI TO i1 i2 a b S i h) (n : S ∉ [z, TI, TO, i1, i2]) (k : ∀ c o, c ≠ S → h.get? c = some o → h'.get? c = some o) : ZS t1 t2 z TI TO i1 i2 a b S i h' := by
  simp only [List.mem_cons, List.not_mem_nil, or_false, not_or] at n
  obtain ⟨n1, n2, n3, n4, n5⟩ := n
  obtain ⟨hI, q1, q2, ⟨x, y, hO⟩, hz⟩ := q
  refine ⟨k _ _ (Ne.symm n2) hI, q1.at fun o e => k _ o (Ne.symm n4) e, q2.at fun o e => k _ o (Ne.symm n5) e, ⟨x, y, k _ _ (Ne.symm n3) hO⟩, ?_⟩
  rcases hz with hz | ⟨T, f, oT, hz, hT, r1, r2, r3, r4⟩
  · exact .inl (k _ _ (Ne.symm n1) hz)
  · exact .inr ⟨T, f, oT, k _ _ (Ne.symm n1) hz, k _ _ r4 hT, r1, r2, r3, r4⟩
theorem FpOk.upd {X : Cx} {pins : List (Addr × Obj)} {H : Hp} {c T : Addr} {o : HO} (h : FpOk X pins H c) (n : c ≠ T) : FpOk X pins (upd H T o) c := ⟨(upd_ne n).trans h.1, h.2⟩
section
variable {X : Cx} {pins : List (Addr × Obj)} {σ : L2.St} {A : Around} {R : Result → Shared → Prop} {t1 t2 : Bool} {z TI TO i1 i2 a b S : Addr}
variable {E : Value → Shared → Prop} {H : Hp} {s : Shared}
theorem ZL.length {H H' : Hp} {ps : List (V × V)} {Ts : List Addr} (h : ZL H ps Ts H') : Ts.length = ps.length := by
  induction h with
  | nil => rfl
  | cons _ _ ih => simp [ih]
end
/-! the data's rule -/
theorem ZL.nw {K : Kf} {H H' : Hp} {ps : List (V × V)} {Ts : List Addr} (h : ZL H ps Ts H') : ∀ {F : Hp} {vs ws : List V} {ds es : List D}, Sub F H → ps = vs.zip ws → RA K F vs ds → RA K F ws es →
    ∃ F', Nw F H F' H' ∧ RA K F' (Ts.map V.ref) (List.zipWith (fun d e => D.tup [d, e]) ds es) := by
  induction h with
  | nil =>
    intro F vs ws ds es s e r1 r2
    refine ⟨F, Nw.refl s, ?_⟩
    match vs, ws, r1, r2, e with
    | [], _, .nil, _, _ => exact .nil
    | _ :: _, [], .cons _ _, .nil, _ => exact .nil
  | @cons H H' T p ps Ts hT zl ih =>
    intro F vs ws ds es s e r1 r2
    match vs, ws, r1, r2, e with
    | v :: vs, w :: ws, .cons a r1, .cons b r2, e9 =>
      simp only [List.zip_cons_cons, List.cons.injEq] at e9
      obtain ⟨rfl, e8⟩ := e9
      have nw := Nw.new_ s hT (o := .tup [v, w])
      obtain ⟨F', n2, r⟩ := ih nw.sub e8 (r1.mono nw.le) (r2.mono nw.le)
      exact ⟨F', nw.trans n2, .cons ((R.tup upd_same (.cons (a.mono nw.le) (.cons (b.mono nw.le) .nil))).mono n2.le) r⟩
    | [], _, .nil, _, e => cases e
    | _ :: _, [], .cons _ _, .nil, e => cases e
section
variable {X : Cx} {e e2 : Expr} {ma : MA} {p p2 q pos : Pos}
end
end DL

set_option Elab.async false
set_option linter.all false
set_option maxRecDepth 100000
set_option maxHeartbeats 4000000
namespace DL
open PySem PySem.Spec PyProof.Rows L2
/-! ### defs handed on as values -/
section
variable {X : Cx} {CX : CXT} {k i n : Nat} {f : Addr} {fd : FuncData} {ps : List Str} {sp : Sp} {E : L2.St → XK} {x : Str} {p pos : Pos} {e : Expr} {es : List Expr} {t : TA} {ma : MA}
end
end DL

set_option Elab.async false
set_option linter.all false
set_option maxRecDepth 100000
set_option maxHeartbeats 4000000
namespace DL
open PySem PySem.Spec PyProof.Rows L2
/-! ### tuples whose object is known: made by (..), tuple(list), t + u; t.index(x) -/
section
variable {X : Cx}
def mTupP (m : MA) : MO := fun ρ => (m ρ).bind fun p => (frs p.1 p.2).bind fun q => if q.1.length ≤ cap then some (.newP q.1, q.2) else none
def dTupleP : D → Option O1
  | .lst ds => some (.newP ds)
  | .scr ns => some (.newP (ns.map D.int))
  | .tup ds => some (.val (.tup ds))
  | .tpl ds => some (.val (.tpl ds))
  | _ => none
def isTpl : D → Bool
  | .tpl _ => true
  | _ => false
/-- o.m(e) of a known tuple -/
def mT1 (f : D → D → Option O1) (mo me : ME) : MO := fun ρ => (mo ρ).bind fun p => (vw p.2 p.1).bind fun d0 => if isTpl d0 = true then (me p.2).bind fun q => (vw q.2 p.1).bind fun d => (vw q.2 q.1).bind fun e => (f d e).bind fun o => some (o, q.2) else none
end
end DL

set_option Elab.async false
set_option linter.all false
set_option maxRecDepth 100000
set_option maxHeartbeats 4000000
namespace DL
open PySem PySem.Spec PyProof.Rows L2
/-! ### known tuples in mirrors -/
section
variable {ρ : En} {ds : List D} {i : Int}
@[simp] theorem ev_retO_newP {d : List D} : retO (.newP d) ρ = .rt (.tpl d) ρ := rfl
@[simp] theorem ev_own_newP {d : List D} : ownO (.newP d) = .fz (.tpl d) := rfl
@[simp] theorem ev_d_newP {d : List D} : (O1.newP d).d = .tpl d := rfl
@[simp] theorem ev_mGTup_tpl {n : Nat} {ms : MGs} : mGTup n ms (.tpl ds) ρ = if ds.length = n then ms ds ρ else none := rfl
@[simp] theorem ev_mGSeq_tpl {n : Nat} {ms : MGs} : mGSeq n ms (.tpl ds) ρ = if ds.length = n then ms ds ρ else none := rfl
@[simp] theorem ev_any_tpl : anyD (.tpl ds) = some ds := rfl
@[simp] theorem dIx_tpl : dIx (.tpl ds) (.int i) = (atI ds i).bind fun x => some (.val x) := rfl
@[simp] theorem seqD_tpl : seqD (.tpl ds) = some ds := rfl
@[simp] theorem dLen_tpl : dLen (.tpl ds) = some (.val (.int ds.length)) := rfl
@[simp] theorem dList_tpl : dList (.tpl ds) = some (.newL ds) := rfl
@[simp] theorem dTuple_tpl : dTuple (.tpl ds) = some (.val (.tpl ds)) := rfl
@[simp] theorem dTupleP_tpl : dTupleP (.tpl ds) = some (.val (.tpl ds)) := rfl
@[simp] theorem dTupleP_tup : dTupleP (.tup ds) = some (.val (.tup ds)) := rfl
@[simp] theorem dTupleP_lst : dTupleP (.lst ds) = some (.newP ds) := rfl
@[simp] theorem isi_tpl {T : TyN} : isiD T (.tpl ds) = some (match T with | .tuple => true | _ => false) := rfl
@[simp] theorem dRevT_tpl : dRevT (.tpl ds) = some (.newT ds.reverse) := rfl
@[simp] theorem isTpl_tpl : isTpl (.tpl ds) = true := rfl
@[simp] theorem ev_mTupP {m : MA} : mTupP m ρ = (m ρ).bind fun p => (frs p.1 p.2).bind fun q => if q.1.length ≤ cap then some (.newP q.1, q.2) else none := rfl
@[simp] theorem ev_mT1 {f : D → D → Option O1} {mo me : ME} : mT1 f mo me ρ = (mo ρ).bind fun p => (vw p.2 p.1).bind fun d0 => if isTpl d0 = true then (me p.2).bind fun q => (vw q.2 p.1).bind fun d => (vw q.2 q.1).bind fun e => (f d e).bind fun o => some (o, q.2) else none := rfl
end
/-! i << j, i of any size -/
end DL

set_option Elab.async false
set_option linter.all false
set_option maxRecDepth 100000
set_option maxHeartbeats 4000000
namespace DL
open PySem PySem.Spec PyProof.Rows L2
/-! ### in, of tuples whatever they hold -/
section
variable {X : Cx} {a b : Expr} {ma mb : ME} {pos : Pos}
end
/-! ### a display of one pair, the key a tuple -/
section
variable {prog : Program} {w : World} {κ : Type} [DecidableEq κ] {knd : HeapKind prog w κ} {A : Around} {E : Value → Shared → Prop} {s : Shared}
end
/-- {k: v} -/
def mDispT (mk mv : ME) : MO := fun ρ => (mk ρ).bind fun p => (frR p.1 p.2).bind fun x => (mv x.2).bind fun q => (frR q.1 q.2).bind fun y => (keysOf x.1).bind fun _ => some (.newI [(x.1, y.1)], y.2)
@[simp] theorem ev_mDispT {mk mv : ME} {ρ : En} : mDispT mk mv ρ = (mk ρ).bind fun p => (frR p.1 p.2).bind fun x => (mv x.2).bind fun q => (frR q.1 q.2).bind fun y => (keysOf x.1).bind fun _ => some (.newI [(x.1, y.1)], y.2) := rfl
end DL

set_option Elab.async false
set_option linter.all false
set_option maxRecDepth 100000
set_option maxHeartbeats 4000000

/-! ### Gt of lists of whole numbers -/
namespace DL
end DL
namespace PySem.SeqAt
open PySem PySem.SeqAt DL
open PySem.AutoSeq1 (wpAny_loadPart')
open PySem.MeetsSeq PySem.MeetsSeq2 PySem.MeetsSeq3 SeqRoads2
end PySem.SeqAt
namespace DL
open PySem PySem.Spec PyProof.Rows L2
section
variable {X : Cx} {a b : Expr} {ma mb : ME} {pos : Pos}
end
end DL

/-! ### LtE of lists of whole numbers -/
namespace DL
end DL
namespace PySem.SeqAt
open PySem PySem.SeqAt DL
open PySem.AutoSeq1 (wpAny_loadPart')
open PySem.MeetsSeq PySem.MeetsSeq2 PySem.MeetsSeq3 SeqRoads2
end PySem.SeqAt
namespace DL
open PySem PySem.Spec PyProof.Rows L2
section
variable {X : Cx} {a b : Expr} {ma mb : ME} {pos : Pos}
end
end DL

set_option Elab.async false
set_option linter.all false
set_option maxRecDepth 100000
set_option maxHeartbeats 4000000
namespace DL
open PySem PySem.Spec PyProof.Rows L2
/-! ### range(i, j, c), c above 0 -/
def rngC (lo c : Int) (n : Nat) : List D := (List.range n).map fun i => D.int (lo + (i : Nat) * c)
def rng3 : List D → Option (List D)
  | [.int i, .int j, .int c] => if (-1000000 ≤ i ∧ i ≤ 1000000) ∧ (-1000000 ≤ j ∧ j ≤ 1000000) ∧ (1 ≤ c ∧ c ≤ 1000000) then some (rngC i c (if i < j then (j - i - 1) / c + 1 else 0).toNat) else none
  | _ => none
section
variable {X : Cx} {tg e e2 e3 : Expr} {ma : MA} {p pos : Pos}
end
@[simp] theorem rng3_eq {i j c : Int} : rng3 [.int i, .int j, .int c] = if (-1000000 ≤ i ∧ i ≤ 1000000) ∧ (-1000000 ≤ j ∧ j ≤ 1000000) ∧ (1 ≤ c ∧ c ≤ 1000000) then some (rngC i c (if i < j then (j - i - 1) / c + 1 else 0).toNat) else none := rfl
/-! ### isinstance(e, (C1, ..)), classes of the program -/
section
variable {X : Cx}
end
end DL

set_option Elab.async false
set_option linter.all false
set_option maxRecDepth 100000
set_option maxHeartbeats 4000000
namespace DL
open PySem PySem.Spec PyProof.Rows L2
/-! ### a comprehension over a list that a local owns: the list stays owned -/
theorem Rel.put {K : Kf} {G : Gh} {F H : Hp} {σ : L2.St} {ρ : En} {i : Nat} {p : Addr} {vs : List V} {ds : List D} (I : Rel K (G.pinO p ⟨.lst vs, trivial⟩) F H σ ρ) (hs : σ[i]? = some (some (.ref p))) (hi : ρ[i]? = some none) (ra : RA K F vs ds) (h0 : G.H0 p = none) (hpn : ∀ q ∈ G.Pn, q.1 ≠ p) :
    Rel K G F H σ (ρ.set i (some (.ow false (.lst ds)))) := by
  have hl : i < ρ.length := by
    rcases Nat.lt_or_ge i ρ.length with z | z
    · exact z
    · rw [List.getElem?_eq_none z] at hi; cases hi
  obtain ⟨pa, pb, pc⟩ := I.pn (p, ⟨.lst vs, trivial⟩) List.mem_cons_self
  have I1 := I.unpinO
  refine ⟨I1.sub, by simp [I1.len], fun k dv e => ?_, fun k l b c d1 d2 q jk e1 e2 e3 e4 => ?_, I1.keep, I1.grow, I1.low, fun q hq => ?_, I1.lk, fun q hq => ?_, I1.bx, ?_⟩
  · rcases get_set e with ⟨rfl, z, _⟩ | ⟨hne, z⟩
    · cases z
      exact ⟨.ref p, hs, p, rfl, pb, ⟨vs, pa, ra⟩, fun _ => h0, fun z => nomatch z⟩
    · exact I1.slot k dv z
  · rcases get_set e1 with ⟨z0, z, _⟩ | ⟨n1, z1⟩
    · subst z0
      rw [hs] at e3
      cases e3
      rcases get_set e2 with ⟨z3, _, _⟩ | ⟨n2, z2⟩
      · exact jk z3.symm
      · exact pc l c _ z2 e4
    · rcases get_set e2 with ⟨z3, _, _⟩ | ⟨n2, z2⟩
      · subst z3
        rw [hs] at e4
        cases e4
        exact pc k b _ z1 e3
      · exact I1.dis k l b c _ _ q jk z1 z2 e3 e4
  · obtain ⟨d', h1, h2⟩ := I1.bor q hq
    have ne : q.1 ≠ i := fun z => by rw [z, hi] at h1; cases h1
    exact ⟨d', by rw [List.getElem?_set_ne (Ne.symm ne)]; exact h1, h2⟩
  · obtain ⟨h1, h2, h3⟩ := I1.pn q hq
    refine ⟨h1, h2, fun k b d' e => ?_⟩
    rcases get_set e with ⟨z0, z, _⟩ | ⟨n1, z1⟩
    · subst z0
      rw [hs]
      intro z
      cases z
      exact hpn q hq rfl
    · exact h3 k b d' z1
  · refine I1.nn.step (Same.refl _) (fun j b ds e => ?_) (fun _ _ _ _ _ _ => rfl) (fun a ha => ⟨rfl, (I1.nn.ni ha).1, (I1.nn.ni ha).2.2.1⟩) rfl rfl fun j c e a e1 e2 => ?_
    · rcases get_set e with ⟨_, z, _⟩ | ⟨_, z⟩
      · cases z
      · exact ⟨z, rfl⟩
    · rcases get_set e1 with ⟨z0, z, _⟩ | ⟨_, z⟩
      · subst z0
        rw [hs] at e2
        cases e2
        exact .inr I.pinNi
      · exact .inl ⟨c, e, z, e2⟩
/-- the comprehension's mirror -/
def noneAt (ρ : En) (i : Nat) : Bool := match ρ[i]? with
  | some none => true
  | _ => false
def mLcOw (i : Nat) (g : MG) (vs : List Nat) (mt : MT) (me : ME) : MO := fun ρ => match ρ[i]? with
  | some (some (.ow false (.lst ds))) => if okW vs (ρ.set i none) = true ∧ ds.length ≤ cap then (lcL g vs mt me ds (ρ.set i none)).bind fun q => if noneAt q.2 i = true then some (.newL q.1, q.2.set i (some (.ow false (.lst ds)))) else none else none
  | _ => none
@[simp] theorem ev_mLcOw {i : Nat} {g : MG} {vs : List Nat} {mt : MT} {me : ME} {ρ : En} : mLcOw i g vs mt me ρ = match ρ[i]? with
  | some (some (.ow false (.lst ds))) => if okW vs (ρ.set i none) = true ∧ ds.length ≤ cap then (lcL g vs mt me ds (ρ.set i none)).bind fun q => if noneAt q.2 i = true then some (.newL q.1, q.2.set i (some (.ow false (.lst ds)))) else none else none
  | _ => none := rfl
@[simp] theorem noneAt_zero {x : Option DV} {ρ : En} : noneAt (x :: ρ) 0 = x.isNone := by cases x <;> rfl
@[simp] theorem noneAt_succ {x : Option DV} {ρ : En} {i : Nat} : noneAt (x :: ρ) (i + 1) = noneAt ρ i := rfl
end DL

set_option Elab.async false
set_option linter.all false
set_option maxRecDepth 100000
set_option maxHeartbeats 4000000
namespace DL
open PySem PySem.Spec PyProof.Rows L2
/-! ### for k, v in d.items() -/
def dItems : D → Option (List D)
  | .dic kv => some (kv.map fun p => .tup [p.1, p.2])
  | _ => none
@[simp] theorem dItems_dic {kv : List (D × D)} : dItems (.dic kv) = some (kv.map fun p => .tup [p.1, p.2]) := rfl
end DL

set_option Elab.async false
set_option linter.all false
set_option maxRecDepth 100000
set_option maxHeartbeats 4000000
namespace DL
open PySem PySem.Spec PyProof.Rows L2
/-! ### for k, v in d.items(), tuple keys -/
section
variable {X : Cx} {pins : List (Addr × Obj)} {σ : L2.St} {H : Hp} {s : Shared} {d : Addr} {o : Obj}
end
section
variable {P : Program} {w : World} {K : PySem.W.Frag} {tg : Expr} {d : Addr} {o : Obj} {es : Array DictEntry} {ep : Nat}
end
/-- the pairs of a dict of either kind -/
def dItemsT : D → Option (List D)
  | .dic kv => some (kv.map fun p => .tup [p.1, p.2])
  | .dit kv => some (kv.map fun p => .tup [p.1, p.2])
  | _ => none
@[simp] theorem dItemsT_dic {kv : List (D × D)} : dItemsT (.dic kv) = some (kv.map fun p => .tup [p.1, p.2]) := rfl
@[simp] theorem dItemsT_dit {kv : List (D × D)} : dItemsT (.dit kv) = some (kv.map fun p => .tup [p.1, p.2]) := rfl
end DL

set_option Elab.async false
set_option linter.all false
set_option maxRecDepth 100000
set_option maxHeartbeats 4000000
namespace DL
open PySem PySem.Spec PyProof.Rows L2
/-! ### bits -/
def dBAnd : D → D → Option O1 := f2I0 fun i j => .int (Builtin.bitAnd i j)
def dBOr : D → D → Option O1 := f2I0 fun i j => .int (Builtin.bitOr i j)
section
variable {X : Cx} {a b : Expr} {ma mb : ME} {pos : Pos}
end
@[simp] theorem dBAnd_int {i j : Int} : dBAnd (.int i) (.int j) = some (.val (.int (Builtin.bitAnd i j))) := rfl
@[simp] theorem dBOr_int {i j : Int} : dBOr (.int i) (.int j) = some (.val (.int (Builtin.bitOr i j))) := rfl
/-! ### {k: v} with a whole number or a text for key -/
def mDispK (mk mv : ME) : MO := fun ρ => (mk ρ).bind fun p => (frR p.1 p.2).bind fun x => (mv x.2).bind fun q => (frR q.1 q.2).bind fun y => (keyOf x.1).bind fun _ => some (.newK [(x.1, y.1)], y.2)
@[simp] theorem ev_mDispK {mk mv : ME} {ρ : En} : mDispK mk mv ρ = (mk ρ).bind fun p => (frR p.1 p.2).bind fun x => (mv x.2).bind fun q => (frR q.1 q.2).bind fun y => (keyOf x.1).bind fun _ => some (.newK [(x.1, y.1)], y.2) := rfl
end DL

set_option Elab.async false
set_option linter.all false
set_option maxRecDepth 100000
set_option maxHeartbeats 4000000
namespace DL
open PySem PySem.Spec PyProof.Rows L2
/-! ### d.update(e), both with whole numbers and texts for keys -/
def mrgD (kv : List (D × D)) : List (D × D) → List (D × D)
  | [] => kv
  | (dk, d) :: r => match keyOf dk with
    | some k => mrgD (kPut keyOf kv dk k d) r
    | none => mrgD kv r
def dUpd (d e : D) : Option D := match d, e with
  | .dic kv, .dic m => if kv.length + m.length ≤ cap then some (.dic (mrgD kv m)) else none
  | _, _ => none
def mDUpd (i : Nat) (ma : MA) : ME := fun ρ => match ρ[i]? with
  | some (some (.ow _ (.dic _))) => (ma ρ).bind fun p => (frs p.1 p.2).bind fun q => match q.1 with
      | [e] => match q.2[i]? with
        | some (some (.ow b d)) => (dUpd d e).bind fun d' => some (.fz .non, q.2.set i (some (.ow b d')))
        | _ => none
      | _ => none
  | _ => none
@[simp] theorem ev_mDUpd {i : Nat} {ma : MA} {ρ : En} : mDUpd i ma ρ = match ρ[i]? with
  | some (some (.ow _ (.dic _))) => (ma ρ).bind fun p => (frs p.1 p.2).bind fun q => match q.1 with
      | [e] => match q.2[i]? with
        | some (some (.ow b d)) => (dUpd d e).bind fun d' => some (.fz .non, q.2.set i (some (.ow b d')))
        | _ => none
      | _ => none
  | _ => none := rfl
end DL

set_option Elab.async false
set_option linter.all false
set_option maxRecDepth 100000
set_option maxHeartbeats 4000000
namespace DL
open PySem PySem.Spec PyProof.Rows L2
/-! ### lists of lists of one's own: facts -/
def isMu : D → Bool
  | .mu _ => true
  | _ => false
theorem El.fz {K : Kf} {F H : Hp} {v : V} {d : D} (h : El K F H v d) (n : isMu d = false) : R K F v d := by
  cases d <;> first | exact h | cases n
theorem inn_fz {v : V} {vs : List V} {d : D} {ds : List D} (n : isMu d = false) : inn (v :: vs) (d :: ds) = inn vs ds := by
  cases v <;> cases d <;> first | rfl | cases n
theorem OA.length {K : Kf} {F H : Hp} : ∀ {vs : List V} {ds : List D}, OA K F H vs ds → vs.length = ds.length
  | _, _, .nil => rfl
  | _, _, .cons _ t => by rw [List.length_cons, List.length_cons, OA.length t]
theorem OA.get {K : Kf} {F H : Hp} : ∀ {vs : List V} {ds : List D} {n : Nat} {d : D}, OA K F H vs ds → ds[n]? = some d → ∃ v, vs[n]? = some v ∧ El K F H v d
  | _, _, _, _, .nil, h => by simp at h
  | _, _, 0, _, .cons r t, h => by simp at h; subst h; exact ⟨_, rfl, r⟩
  | _, _, n + 1, d, .cons r t, h => by
    obtain ⟨v, h1, h2⟩ := OA.get (n := n) (d := d) t (by simpa using h)
    exact ⟨v, by simpa using h1, h2⟩
theorem inn_get : ∀ {vs : List V} {ds : List D} {n : Nat} {q : Addr} {e : D}, vs[n]? = some (.ref q) → ds[n]? = some (.mu e) → q ∈ inn vs ds
  | [], _, _, _, _, h, _ => by simp at h
  | _ :: _, [], _, _, _, _, h => by simp at h
  | v :: vs, d :: ds, 0, q, e, h1, h2 => by
    simp at h1 h2
    subst h1 h2
    exact List.mem_cons_self
  | v :: vs, d :: ds, n + 1, q, e, h1, h2 => by
    have ih := inn_get (vs := vs) (ds := ds) (n := n) (by simpa using h1) (by simpa using h2)
    unfold inn
    split
    · rename_i a b; cases a; cases b; exact List.mem_cons_of_mem _ ih
    · rename_i a b; cases a; cases b; exact ih
    · rename_i a; exact absurd rfl (a v vs d ds rfl)
/-- an inner thing is other -/
theorem OA.setMu {K : Kf} {F H : Hp} {q : Addr} {o : HO} {e e' : D} (fq : F q = none) (ob : Ob0 K F (upd H q o) q e') : ∀ {vs : List V} {ds : List D} {n : Nat}, OA K F H vs ds → (inn vs ds).Nodup → vs[n]? = some (.ref q) → ds[n]? = some (.mu e) →
    OA K F (upd H q o) vs (ds.set n (.mu e')) ∧ inn vs (ds.set n (.mu e')) = inn vs ds
  | _, _, _, .nil, _, h, _ => by simp at h
  | v :: vs, d :: ds, 0, .cons r t, nd, h1, h2 => by
    simp at h1 h2
    subst h1 h2
    have nd : (q :: inn vs ds).Nodup := nd
    rw [List.nodup_cons] at nd
    refine ⟨.cons ⟨q, rfl, fq, ob⟩ (t.mono (Same.refl _) fun q' hq => ⟨upd_ne fun z => nd.1 (z ▸ hq), (t.inner q' hq).1⟩), rfl⟩
  | v :: vs, d :: ds, n + 1, .cons r t, nd, h1, h2 => by
    have h1' : vs[n]? = some (.ref q) := by simpa using h1
    have h2' : ds[n]? = some (.mu e) := by simpa using h2
    have iq := inn_get h1' h2'
    rw [List.set_cons_succ]
    by_cases dm : isMu d = true
    · cases d <;> first | cases dm | skip
      rename_i d0
      obtain ⟨q0, rfl, f0, ob0⟩ := r
      have nd : (q0 :: inn vs ds).Nodup := nd
      rw [List.nodup_cons] at nd
      obtain ⟨a, b⟩ := OA.setMu (n := n) fq ob t nd.2 h1' h2'
      refine ⟨.cons ⟨q0, rfl, f0, ob0.mono (Same.refl _) (upd_ne fun z => nd.1 (z ▸ iq))⟩ a, ?_⟩
      show q0 :: inn vs (ds.set n (.mu e')) = q0 :: inn vs ds
      rw [b]
    · have dm : isMu d = false := by simpa using dm
      rw [inn_fz dm] at nd
      obtain ⟨a, b⟩ := OA.setMu (n := n) fq ob t nd h1' h2'
      exact ⟨.cons (.of (r.fz dm)) a, by rw [inn_fz dm, inn_fz dm, b]⟩
theorem atI_of2 {α : Type} {xs : List α} {i : Int} {x : α} {n : Nat} (h1 : ixN xs.length i = some n) (h2 : xs[n]? = some x) : L2.atI xs i = some x := by
  unfold L2.atI
  rw [h1]
  exact h2
/-- a slot that holds a list of lists -/
def nstAt (ρ : En) (i : Nat) : Option (Bool × List D) := match ρ[i]? with
  | some (some (.ow b (.nst ds))) => some (b, ds)
  | _ => none
theorem nstAt_eq {ρ : En} {i : Nat} {b : Bool} {ds : List D} (h : nstAt ρ i = some (b, ds)) : ρ[i]? = some (some (.ow b (.nst ds))) := by
  unfold nstAt at h
  split at h
  · cases h; assumption
  · cases h
/-- what it holds, in the heap -/
theorem Rel.nest {K : Kf} {G : Gh} {F H : Hp} {σ : L2.St} {ρ : En} (I : Rel K G F H σ ρ) {i : Nat} {b : Bool} {ds : List D} (h : nstAt ρ i = some (b, ds)) :
    ∃ p vs, ρ[i]? = some (some (.ow b (.nst ds))) ∧ σ[i]? = some (some (.ref p)) ∧ H p = some (.lst vs) ∧ F p = none ∧ OA K F H vs ds ∧ (inn vs ds).Nodup ∧ p ∉ inn vs ds := by
  have hi := nstAt_eq h
  obtain ⟨v, hs, p, rfl, f, _⟩ := I.slot i _ hi
  obtain ⟨vs, h1, h2, h3, h4⟩ := I.nn i b ds p hi hs
  exact ⟨p, vs, hi, hs, h1, f, h2, h3, fun hp => ((h4 p hp).2.2 i b _ p hi hs).1 rfl⟩
theorem fpI_nst {H : Hp} {p : Addr} {vs : List V} {ds : List D} (h : H p = some (.lst vs)) : fpI H p (.nst ds) = inn vs ds := by unfold fpI; rw [h]
/-! ### xs[k], a frozen thing -/
def muOff (d : D) : Option O1 := if isMu d = true then none else some (.val d)
def mNGet (i : Nat) (mk : ME) : MO := fun ρ => (nstAt ρ i).bind fun _ => (mk ρ).bind fun p => (vw p.2 p.1).bind fun kd => match kd with
  | .int k => (nstAt p.2 i).bind fun x => (L2.atI x.2 k).bind fun d => (muOff d).bind fun o => some (o, p.2)
  | _ => none
section
variable {X : Cx} {x y : Str} {b c : Expr} {mk me : ME} {np np2 pos pos2 : Pos}
/-! ### xs[k][j] -/
def mNIx (i : Nat) (mk : ME) (j : Nat) : MO := fun ρ => (nstAt ρ i).bind fun _ => (mk ρ).bind fun p => (vw p.2 p.1).bind fun kd => match kd with
  | .int k => (nstAt p.2 i).bind fun x => (L2.atI x.2 k).bind fun d => match d, p.2[j]? with
    | .mu (.lst us), some (some (.fz (.int jj))) => (L2.atI us jj).bind fun d => some (.val d, p.2)
    | _, _ => none
  | _ => none
/-! ### len(xs[k]) -/
def mNLen (i : Nat) (mk : ME) : MO := fun ρ => (nstAt ρ i).bind fun _ => (mk ρ).bind fun p => (vw p.2 p.1).bind fun kd => match kd with
  | .int k => (nstAt p.2 i).bind fun x => (L2.atI x.2 k).bind fun d => match d with
    | .mu (.lst us) => some (.val (.int (us.length : Nat)), p.2)
    | _ => none
  | _ => none
/-! ### xs[k] = e, at a frozen place -/
def mNSt (i : Nat) (mk me : ME) : MS := fun ρ => (me ρ).bind fun p => (frR p.1 p.2).bind fun q => (nstAt q.2 i).bind fun _ => (mk q.2).bind fun r => (vw r.2 r.1).bind fun kd => match kd with
  | .int k => (nstAt r.2 i).bind fun x => (ixN x.2.length k).bind fun n => (x.2[n]?).bind fun d => if isMu d = true then none else some (.nx (r.2.set i (some (.ow x.1 (.nst (x.2.set n q.1))))))
  | _ => none
theorem no_new {P : Prop} (h : some (HO.lst []) = (none : Option HO)) : P := by cases h
/-! ### xs[k][j] = e -/
def mNSS (i : Nat) (mk : ME) (j : Nat) (me : ME) : MS := fun ρ => (me ρ).bind fun p => (frR p.1 p.2).bind fun q => (nstAt q.2 i).bind fun _ => (mk q.2).bind fun r => (vw r.2 r.1).bind fun kd => match kd with
  | .int k => (nstAt r.2 i).bind fun x => (ixN x.2.length k).bind fun n => match x.2[n]?, r.2[j]? with
    | some (.mu (.lst us)), some (some (.fz (.int jj))) => (ixN us.length jj).bind fun m => some (.nx (r.2.set i (some (.ow x.1 (.nst (x.2.set n (.mu (.lst (us.set m q.1)))))))))
    | _, _ => none
  | _ => none
end
end DL

set_option Elab.async false
set_option linter.all false
set_option maxRecDepth 100000
set_option maxHeartbeats 4000000
namespace DL
open PySem PySem.Spec PyProof.Rows L2
/-! ### return [x, e, ..], x a list or dict of one's own -/
def isC : D → Bool
  | .lst _ => true
  | .dic _ => true
  | .dit _ => true
  | _ => false
def nstL : List RV → En → Option (List D × En)
  | [], ρ => some ([], ρ)
  | .fz d :: rs, ρ => (nstL rs ρ).bind fun p => some (d :: p.1, p.2)
  | .sl i :: rs, ρ => match ρ[i]? with
    | some (some (.ow false d)) => if isC d = true then (nstL rs (ρ.set i none)).bind fun p => some (.mu d :: p.1, p.2) else none
    | _ => none
theorem Ob0.of {K : Kf} {F H : Hp} {p : Addr} {d : D} (h : Ob K F H p d) (c : isC d = true) : Ob0 K F H p d := by
  cases d <;> first | exact h | cases c
def mRetNst (ma : MA) : MS := fun ρ => (ma ρ).bind fun p => if p.1.length ≤ cap then (nstL p.1 p.2).bind fun q => some (.rn (.nst q.1) q.2) else none
section
variable {X : Cx}
/-! ### x = f(..), f tells a new list of lists -/
def mSetNs (i : Nat) (mf : List D → Option D) (ma : MA) : MS := fun ρ => (ma ρ).bind fun p => (frs p.1 p.2).bind fun q => (mf q.1).bind fun r => if isN r = true then (setE i (.ow false r) q.2).bind fun ρ' => some (.nx ρ') else none
variable {k n : Nat} {f : Addr} {fd : FuncData} {ps : List Str} {x y : Str} {p pos pos2 pos3 : Pos} {e : Expr} {es : List Expr} {mf : List D → Option D} {ma : MA}
end
end DL

set_option Elab.async false
set_option linter.all false
set_option maxRecDepth 100000
set_option maxHeartbeats 4000000

/-! ### Lt of lists of whole numbers -/
namespace DL
def lexL1 : List Int → List Int → Bool
  | x :: xs, y :: ys => if x = y then lexL1 xs ys else decide (x < y)
  | xs, ys => decide (xs.length < ys.length)
end DL
namespace PySem.SeqAt
open PySem PySem.SeqAt DL
open PySem.AutoSeq1 (wpAny_loadPart')
open PySem.MeetsSeq PySem.MeetsSeq2 PySem.MeetsSeq3 SeqRoads2
end PySem.SeqAt
namespace DL
open PySem PySem.Spec PyProof.Rows L2
section
variable {X : Cx} {a b : Expr} {ma mb : ME} {pos : Pos}
end
end DL

set_option Elab.async false
set_option linter.all false
set_option maxRecDepth 100000
set_option maxHeartbeats 4000000
namespace DL
open PySem PySem.Spec PyProof.Rows L2
/-! ### min(a, b) of two lists of whole numbers -/
section
variable {prog : Program} {w : World} {A : Around} {E : Value → Shared → Prop}
variable {I ax S : Addr} {x y : Value} {R : Result → Shared → Prop} {h0 : Heap}
end
end DL
namespace DL
open PySem PySem.Spec PyProof.Rows L2
end DL
namespace DL
open PySem PySem.Spec PyProof.Rows L2
def isL : D → Bool
  | .lst _ => true
  | _ => false
/-- min(a, b): one of the two, both kept -/
def minD (d e : D) : Option D := if isL d = true ∧ isL e = true then (intsOf d).bind fun ns => (intsOf e).bind fun ms => some (if lexL1 ms ns = true then e else d) else none
def min2 : List D → Option D
  | [d, e] => minD d e
  | _ => none
def mMinL (ma : MA) : ME := fun ρ => (ma ρ).bind fun p => (frs p.1 p.2).bind fun q => (min2 q.1).bind fun d => some (.fz d, q.2)
@[simp] theorem ev_mMinL {ma : MA} {ρ : En} : mMinL ma ρ = (ma ρ).bind fun p => (frs p.1 p.2).bind fun q => (min2 q.1).bind fun d => some (.fz d, q.2) := rfl
@[simp] theorem min2_two {d e : D} : min2 [d, e] = minD d e := rfl
end DL

set_option Elab.async false
set_option linter.all false
set_option maxRecDepth 100000
set_option maxHeartbeats 4000000
namespace DL
open PySem PySem.Spec PyProof.Rows L2
/-! ### x = [..], frozen at once -/
end DL

set_option Elab.async false
set_option linter.all false
set_option maxRecDepth 100000
set_option maxHeartbeats 4000000
namespace DL
open PySem PySem.Spec PyProof.Rows L2
/-! ### x = [[..] for ..]: new rows of one's own -/
abbrev Gh.pins (G : Gh) (L : List (Addr × MutO)) : Gh := { G with Pn := L ++ G.Pn }
theorem Rel.pnSub {K : Kf} {G : Gh} {F H : Hp} {σ : L2.St} {ρ : En} (I : Rel K G F H σ ρ) (L : List (Addr × MutO)) (h : ∀ q ∈ L, q ∈ G.Pn) : Rel K { G with Pn := L } F H σ ρ :=
  ⟨I.sub, I.len, I.slot, I.dis, I.keep, I.grow, I.low, I.bor, I.lk, fun q hq => I.pn q (h q hq), I.bx,
    I.nn.step (Same.refl _) (fun i b ds e => ⟨e, rfl⟩) (fun _ _ _ _ _ _ => rfl) (fun a ha => ⟨rfl, (I.nn.ni ha).1, fun r hr => (I.nn.ni ha).2.2.1 r (h r hr)⟩) rfl rfl fun j c e a e1 e2 => .inl ⟨c, e, e1, e2⟩⟩
/-- rows that are pinned, and their data -/
inductive Rows (K : Kf) (F : Hp) : List (Addr × MutO) → List D → Prop
  | nil : Rows K F [] []
  | cons {q : Addr} {vs : List V} {es : List D} {L : List (Addr × MutO)} {ds : List D} : RA K F vs es → Rows K F L ds → Rows K F ((q, ⟨.lst vs, trivial⟩) :: L) (.mu (.lst es) :: ds)
theorem Rows.mono {K : Kf} {F F' : Hp} (l : Le F F') : ∀ {L : List (Addr × MutO)} {ds : List D}, Rows K F L ds → Rows K F' L ds
  | _, _, .nil => .nil
  | _, _, .cons r t => .cons (r.mono l) (t.mono l)
theorem Rows.append {K : Kf} {F : Hp} : ∀ {L M : List (Addr × MutO)} {ds es : List D}, Rows K F L ds → Rows K F M es → Rows K F (L ++ M) (ds ++ es)
  | _, _, _, _, .nil, h => h
  | _, _, _, _, .cons r t, h => .cons r (t.append h)
theorem Rows.length {K : Kf} {F : Hp} : ∀ {L : List (Addr × MutO)} {ds : List D}, Rows K F L ds → L.length = ds.length
  | _, _, .nil => rfl
  | _, _, .cons _ t => by rw [List.length_cons, List.length_cons, t.length]
def refs (L : List (Addr × MutO)) : List V := L.map fun r => .ref r.1
theorem Rows.oa {K : Kf} {F H : Hp} : ∀ {L : List (Addr × MutO)} {ds : List D}, Rows K F L ds → (∀ r ∈ L, H r.1 = some r.2.1 ∧ F r.1 = none) → OA K F H (refs L) ds ∧ inn (refs L) ds = L.map (·.1)
  | _, _, .nil, _ => ⟨.nil, rfl⟩
  | _, _, .cons r t, h => by
    obtain ⟨a, b⟩ := t.oa fun r hr => h r (List.mem_cons_of_mem _ hr)
    obtain ⟨c, d⟩ := h _ List.mem_cons_self
    refine ⟨.cons ⟨_, rfl, d, _, c, r⟩ a, ?_⟩
    show _ :: inn (refs _) _ = _
    rw [b]
    rfl
/-! ### a list of lists is frozen -/
def unMu : D → D
  | .mu d => d
  | d => d
def isRw : D → Bool
  | .mu (.lst _) => true
  | .mu _ => false
  | _ => true
theorem OA.fz {K : Kf} {F F' H : Hp} (le : Le F F') : ∀ {vs : List V} {ds : List D}, OA K F H vs ds → ds.all isRw = true → (∀ q ∈ inn vs ds, F' q = H q) → RA K F' vs (ds.map unMu)
  | _, _, .nil, _, _ => .nil
  | v :: vs, d :: ds, .cons r t, h, hq => by
    rw [List.all_cons, Bool.and_eq_true] at h
    by_cases dm : isMu d = true
    · cases d <;> first | cases dm | skip
      rename_i e
      obtain ⟨q, rfl, f, ob⟩ := r
      have hq : ∀ a ∈ q :: inn vs ds, F' a = H a := hq
      have r2 : R K F' (.ref q) e := by
        cases e <;> first | cases h.1 | skip
        obtain ⟨ws, h1, h2⟩ := ob
        exact .lst (by rw [hq q List.mem_cons_self]; exact h1) (h2.mono le)
      exact .cons r2 (OA.fz le t h.2 fun a ha => hq a (List.mem_cons_of_mem _ ha))
    · have dm : isMu d = false := by simpa using dm
      rw [inn_fz dm] at hq
      have : unMu d = d := by cases d <;> first | rfl | cases dm
      rw [List.map_cons, this]
      exact .cons ((r.fz dm).mono le) (OA.fz le t h.2 hq)
end DL

set_option Elab.async false
set_option linter.all false
set_option maxRecDepth 100000
set_option maxHeartbeats 4000000
namespace DL
open PySem PySem.Spec PyProof.Rows L2
/-! ### instances of a class of the program, of one's own -/
theorem InsA.uniq {K : Kf} {c c' : Nat} {C C' : Addr} (h : InsA K c C) (h' : InsA K c' C') : C = C' := by
  unfold InsA insName at h h'
  rw [h] at h'
  cases h'
  rfl
theorem kd_at {K : Kf} {C0 : Addr} {P : Addr → Prop} (hA : InsA K 0 C0) (h : P C0) : ∀ c C, InsA K c C → P C := fun c C hc => by rw [← hA.uniq hc]; exact h
theorem RS.get {K : Kf} {F : Hp} {f : Str} {d : D} : ∀ {vs : List (Str × V)} {ds : List (Str × D)}, RS K F vs ds → ds.lookup f = some d → ∃ v, vs.lookup f = some v ∧ R K F v d
  | _, _, .nil, h => by cases h
  | _, _, .cons (f := g) r t, h => by
    rw [List.lookup_cons] at h ⊢
    cases q : (f == g) with
    | true => rw [q] at h; cases h; exact ⟨_, rfl, r⟩
    | false => rw [q] at h; exact RS.get t h
theorem RS.none {K : Kf} {F : Hp} {f : Str} : ∀ {vs : List (Str × V)} {ds : List (Str × D)}, RS K F vs ds → ds.lookup f = none → vs.lookup f = none
  | _, _, .nil, _ => rfl
  | _, _, .cons (f := g) r t, h => by
    rw [List.lookup_cons] at h ⊢
    cases q : (f == g) with
    | true => rw [q] at h; cases h
    | false => rw [q] at h; exact RS.none t h
theorem RS.length {K : Kf} {F : Hp} : ∀ {vs : List (Str × V)} {ds : List (Str × D)}, RS K F vs ds → vs.length = ds.length
  | _, _, .nil => rfl
  | _, _, .cons _ t => by rw [List.length_cons, List.length_cons, RS.length t]
def putFD (f : Str) (v : D) : List (Str × D) → List (Str × D)
  | [] => [(f, v)]
  | (g, x) :: r => if g = f then (g, v) :: r else (g, x) :: putFD f v r
theorem RS.put {K : Kf} {F : Hp} {f : Str} {v : V} {d : D} (h : R K F v d) : ∀ {vs : List (Str × V)} {ds : List (Str × D)}, RS K F vs ds → RS K F (putF f v vs) (putFD f d ds)
  | _, _, .nil => .cons h .nil
  | _, _, .cons (f := g) r t => by
    unfold putF putFD
    split
    · exact .cons h t
    · exact .cons r (RS.put h t)
/-- a slot that holds an instance -/
def insAt (ρ : En) (i : Nat) : Option (Bool × Nat × List (Str × D)) := match ρ[i]? with
  | some (some (.ow b (.ins c fs))) => some (b, c, fs)
  | _ => none
theorem insAt_eq {ρ : En} {i : Nat} {b : Bool} {c : Nat} {fs : List (Str × D)} (h : insAt ρ i = some (b, c, fs)) : ρ[i]? = some (some (.ow b (.ins c fs))) := by
  unfold insAt at h
  split at h
  · cases h; assumption
  · cases h
theorem Rel.inst {K : Kf} {G : Gh} {F H : Hp} {σ : L2.St} {ρ : En} (I : Rel K G F H σ ρ) {i : Nat} {b : Bool} {c : Nat} {fs : List (Str × D)} (h : insAt ρ i = some (b, c, fs)) :
    ∃ p C dx vs, ρ[i]? = some (some (.ow b (.ins c fs))) ∧ σ[i]? = some (some (.ref p)) ∧ F p = none ∧ InsA K c C ∧ H p = some (.ins C dx vs) ∧ F dx = some (.own p) ∧ RS K F vs fs := by
  have hi := insAt_eq h
  obtain ⟨v, hs, p, rfl, f, ⟨C, dx, vs, h1, h2, h3, h4⟩, _⟩ := I.slot i _ hi
  exact ⟨p, C, dx, vs, hi, hs, f, h1, h2, h3, h4⟩
section
variable {X : Cx} {x f m : Str} {np pos pos2 apos : Pos} {e : Expr} {es : List Expr}
/-! ### x.f -/
def mFldI (i : Nat) (f : Str) : ME := fun ρ => (insAt ρ i).bind fun x => (x.2.2.lookup f).bind fun d => some (.fz d, ρ)
theorem de_fldI (i : Nat) (hC : ∀ c C, InsA X.K c C → Cls X.K C ∧ NoAttr X.K C f) (hN : X.N[i]? = some x := by rfl) (hv : Vis X.env.scope x := by first | exact Or.inl rfl | exact Or.inr (Or.inl rfl) | exact Or.inr (Or.inr rfl)) (hdb : (x == ("__debug__" : Str)) = false := by decide) (hcd : (x == ("__classdict__" : Str)) = false := by decide)
    (hb : attributeBase (.Name x np) f X.env (eval (.Name x np) X.env) = eval (.Name x np) X.env := by rfl) : DE X (.Attribute (.Name x np) f pos) (mFldI i f) :=
  peImp (pe_fld (pe_var hN hv hdb hcd) hb) fun σ H Q ⟨G, F, ρ, I, r, ρ', e, k⟩ => by
    obtain ⟨⟨b, c, fs⟩, e1, e⟩ := Option.bind_eq_some_iff.mp e
    obtain ⟨d, e2, e⟩ := Option.bind_eq_some_iff.mp e
    cases e
    obtain ⟨p, C, dx, vs, hi, hσ, fp, hA, hp, fd, rs⟩ := I.inst e1
    obtain ⟨v, hv, rv⟩ := rs.get e2
    obtain ⟨cl, na⟩ := hC c C hA
    exact ⟨.ref p, hσ, p, C, dx, vs, v, rfl, hp, cl, na, hv, k F H v (Same.refl _) I rv⟩
/-! ### x.f = e -/
def mFldSt (i : Nat) (f : Str) (me : ME) : MS := fun ρ => (me ρ).bind fun p => (frR p.1 p.2).bind fun q => (insAt q.2 i).bind fun x => if x.2.2.length < 900 then some (.nx (q.2.set i (some (.ow x.1 (.ins x.2.1 (putFD f q.1 x.2.2)))))) else none
theorem ds_fldSt {me : ME} (i : Nat) (hC : ∀ c C, InsA X.K c C → Cls X.K C ∧ NoAttr X.K C f) (he : DE X e me) (hN : X.N[i]? = some x := by rfl) (hv : Vis X.env.scope x := by first | exact Or.inl rfl | exact Or.inr (Or.inl rfl) | exact Or.inr (Or.inr rfl)) (hdb : (x == ("__debug__" : Str)) = false := by decide) (hcd : (x == ("__classdict__" : Str)) = false := by decide)
    (hs : swapsWith e (some (.Attribute (.Name x np) f pos2)) pos.line X.env = pure false := by rfl) : DS X (.Assign [.Attribute (.Name x np) f pos2] e pos) (mFldSt i f me) :=
  psImp (ps_fld (pe_var hN hv hdb hcd) he hs) fun T σ H ⟨G, F, ρ, I, o, e, k⟩ => by
    obtain ⟨⟨r1, ρ1⟩, e1, e⟩ := Option.bind_eq_some_iff.mp e
    obtain ⟨⟨d1, ρ2⟩, e2, e⟩ := Option.bind_eq_some_iff.mp e
    obtain ⟨⟨b, c, fs⟩, e3, e⟩ := Option.bind_eq_some_iff.mp e
    dsimp only at e e3
    split at e
    case isFalse => cases e
    case isTrue hl =>
    cases e
    refine ⟨G, F, ρ, I, r1, ρ1, e1, fun F1 H1 v l1 I1 k1 => ?_⟩
    obtain ⟨F2, l2, I2, r2⟩ := I1.frR k1 e2
    obtain ⟨p, C, dx, vs, hi, hσ, fp, hA, hp, fd, rs⟩ := I2.inst e3
    obtain ⟨cl, na⟩ := hC c C hA
    refine ⟨.ref p, hσ, p, C, dx, vs, rfl, hp, cl, na, by rw [rs.length]; omega, k F2 _ σ (l1.trans l2) ?_⟩
    exact I2.mut (o := .ins C dx (putF f v vs)) hi hσ ⟨C, dx, putF f v vs, hA, upd_same, fd, rs.put r2⟩
/-! ### x.m(..) -/
/-- its fields are the two -/
def twoF (fs : List (Str × D)) : Bool := match fs with
  | [(f, _), (g, _)] => decide (f = "web" ∧ g = "past")
  | _ => false
theorem twoF_no {fs : List (Str × D)} {m : Str} (h : twoF fs = true) (h1 : (m == ("web" : Str)) = false) (h2 : (m == ("past" : Str)) = false) : fs.lookup m = none := by
  unfold twoF at h
  split at h
  · obtain ⟨rfl, rfl⟩ := of_decide_eq_true h
    simp [List.lookup_cons, h1, h2]
  · cases h
def mMeth (i : Nat) (mf : List D → Option (D × D)) (ma : MA) : ME := fun ρ => (insAt ρ i).bind fun y => if twoF y.2.2 = true then (ma ρ).bind fun p => (frs p.1 p.2).bind fun q => (insAt q.2 i).bind fun x => (mf (.ins x.2.1 x.2.2 :: q.1)).bind fun r => some (.fz r.1, q.2.set i (some (.ow x.1 r.2))) else none
theorem meth_of {K : Kf} {G : Gh} {F2 H2 : Hp} {σ : L2.St} {ρ2 : En} {n i : Nat} {b : Bool} {c : Nat} {fs : List (Str × D)} {mf : List D → Option (D × D)} {ds : List D} {vs : List V} {d d' : D} {p : Addr} {Q : VK} {E : XK}
    (I2 : Rel K G F2 H2 σ ρ2) (e3 : insAt ρ2 i = some (b, c, fs)) (hσ : σ[i]? = some (some (.ref p))) (r2 : RA K F2 vs ds) (hl : vs.length = n) (e4 : mf (.ins c fs :: ds) = some (d, d'))
    (k : ∀ F' H' v, Le F2 F' → Rel K G F' H' σ (ρ2.set i (some (.ow b d'))) → R K F' v d → Q v H') : spB K (n + 1) 0 mf (.ref p :: (vs ++ [])) H2 Q E := by
  have hi := insAt_eq e3
  obtain ⟨v0, h1, p', rfl, fp, ob, _⟩ := I2.slot i _ hi
  rw [hσ] at h1
  cases h1
  rw [List.append_nil]
  refine ⟨by rw [List.length_cons, hl], by omega, F2, .ins c fs :: ds, p, I2.sub, fp, ⟨by rw [List.length_cons, List.length_cons, r2.length], fun j v dd hv hd2 => ?_⟩, d, d', e4, fun F3 H3 v sub le new same fp3 ob3 nb3 bx3 r3 => ?_⟩
  · split
    · rename_i ij
      subst ij
      cases hv
      cases hd2
      exact ⟨rfl, ob, I2.nstB hi hσ⟩
    · rename_i ij
      obtain ⟨j', rfl⟩ : ∃ j', j = j' + 1 := ⟨j - 1, by omega⟩
      obtain ⟨v2, hv2, r3⟩ := r2.get (i := j') (d := dd) (by simpa using hd2)
      have hv : vs[j']? = some v := by simpa using hv
      rw [hv] at hv2
      cases hv2
      exact r3
  · have dj : (((.ins c fs :: ds : List D)[0]?).getD .non) = .ins c fs := rfl
    rw [dj] at same nb3 bx3
    exact k F3 H3 v le (I2.after hi hσ sub le new same fp3 ob3 nb3 bx3) r3
variable {k n : Nat} {g : Addr} {fd : FuncData} {ps : List Str} {mf : List D → Option (D × D)} {ma : MA} {C : Addr}
theorem de_meth0 (i : Nat) {pl : Sem Bool} (hA : InsA X.K 0 C) (cl : Cls X.K C) (hm : Meth X.K C m g) (F : FnOk X.prog X.w X.K X.mg X.base CX0 k g fd ps (spB X.K 1 0 mf)) (hr : Room k X.A) (hb : Binds X.K fd ps []) (h1 : (m == ("web" : Str)) = false := by decide) (h2 : (m == ("past" : Str)) = false := by decide)
    (hN : X.N[i]? = some x := by rfl) (hv : Vis X.env.scope x := by first | exact Or.inl rfl | exact Or.inr (Or.inl rfl) | exact Or.inr (Or.inr rfl)) (hdb : (x == ("__debug__" : Str)) = false := by decide) (hcd : (x == ("__classdict__" : Str)) = false := by decide)
    (ht : eval (.Call (.Attribute (.Name x np) m apos) [] [] pos) X.env = (do
      let ov ← eval (.Name x np) X.env
      standAt apos.atName
      let (f, first) ← holding [ov] (getMethod ov m pl)
      callWith pos f first (backTo pos (starEach [] X.env)) (backToKw pos (keywordEach [] X.env))) := by rfl) : DE X (.Call (.Attribute (.Name x np) m apos) [] [] pos) (mMeth i mf mNil) :=
  peImp (pe_meth0 (pl := pl) (pe_var hN hv hdb hcd) cl hm F hr hb .nil pass0 ht) fun σ H Q ⟨G, F, ρ, I, r, ρ', e, k⟩ => by
    obtain ⟨⟨b, c, fs⟩, e1, e⟩ := Option.bind_eq_some_iff.mp e
    dsimp only at e
    split at e
    case isFalse => cases e
    case isTrue tw =>
    obtain ⟨⟨rs, ρ1⟩, e2, e⟩ := Option.bind_eq_some_iff.mp e
    cases e2
    obtain ⟨⟨ds, ρ2⟩, e3, e⟩ := Option.bind_eq_some_iff.mp e
    cases e3
    obtain ⟨⟨b2, c2, fs2⟩, e4, e⟩ := Option.bind_eq_some_iff.mp e
    obtain ⟨⟨d, d'⟩, e5, e⟩ := Option.bind_eq_some_iff.mp e
    cases e
    obtain ⟨p, C', dx, vs, hi, hσ, fp, hA', hp, fdx, rs'⟩ := I.inst e1
    obtain rfl := hA.uniq hA'
    refine ⟨.ref p, hσ, p, dx, vs, rfl, hp, rs'.none (twoF_no tw h1 h2), ?_⟩
    exact meth_of (E := E0) (vs := []) I e4 hσ .nil rfl e5 fun F' H' v le I' rv => k F' H' v le I' rv
/-! ### x = C(..) -/
def mMake (i : Nat) (mf : List D → Option (D × D)) (ma : MA) : MS := fun ρ => (ma ρ).bind fun p => (frs p.1 p.2).bind fun q => (mf (.ins 0 [] :: q.1)).bind fun r => match r with
  | (.non, .ins c fs) => (setE i (.ow false (.ins c fs)) q.2).bind fun ρ' => some (.nx ρ')
  | _ => none
end
end DL

set_option Elab.async false
set_option linter.all false
set_option maxRecDepth 100000
set_option maxHeartbeats 4000000
namespace DL
open PySem PySem.Spec PyProof.Rows L2
/-! ### a nested list of one's own is put aside, and back -/
theorem Rel.ownG {K : Kf} {G : Gh} {F H : Hp} {σ : L2.St} {ρ ρ' : En} {i : Nat} {D0 : Addr} {L : List (Addr × MutO)} {vs : List V} {ds : List D} (I : Rel K ((G.pins L).pin D0 vs) F H σ ρ) (oa : OA K F H vs ds) (ie : inn vs ds = L.map (·.1)) (nd : (L.map (·.1)).Nodup) (hD : D0 ∉ L.map (·.1)) (h0 : G.H0 D0 = none) (hL : ∀ q ∈ L.map (·.1), G.H0 q = none)
    (hG : ∀ q ∈ G.Pn, q.1 ≠ D0 ∧ q.1 ∉ L.map (·.1)) (h : setE i (.ow false (.nst ds)) ρ = some ρ') : Rel K G F H (σ.set i (some (.ref D0))) ρ' := by
  obtain ⟨pa, pb, pc⟩ := I.pn (D0, ⟨.lst vs, trivial⟩) List.mem_cons_self
  have pr : ∀ r ∈ L, H r.1 = some r.2.1 ∧ F r.1 = none ∧ ∀ (i : Nat) (b : Bool) (d : D), ρ[i]? = some (some (.ow b d)) → σ[i]? ≠ some (some (.ref r.1)) := fun r hr => I.pn r (List.mem_cons_of_mem _ (List.mem_append_left _ hr))
  have nin : ∀ q ∈ L.map (·.1), ¬ NinI H σ ρ q := fun q hq n => by
    obtain ⟨r, hr, rfl⟩ := List.mem_map.mp hq
    exact (I.nn.ni n).2.2.1 r (List.mem_cons_of_mem _ (List.mem_append_left _ hr)) rfl
  have ninD : ¬ NinI H σ ρ D0 := fun n => (I.nn.ni n).2.2.1 _ List.mem_cons_self rfl
  have slotL : ∀ q ∈ L.map (·.1), ∀ (i : Nat) (b : Bool) (d : D), ρ[i]? = some (some (.ow b d)) → σ[i]? ≠ some (some (.ref q)) := fun q hq => by
    obtain ⟨r, hr, rfl⟩ := List.mem_map.mp hq
    exact (pr r hr).2.2
  obtain ⟨rfl, hl, hn⟩ := setE_eq h
  have back : ∀ {k : Nat} {c : Bool} {e : D} {a : Addr}, (ρ.set i (some (.ow false (.nst ds))))[k]? = some (some (.ow c e)) → (σ.set i (some (.ref D0)))[k]? = some (some (.ref a)) → (k = i ∧ c = false ∧ e = .nst ds ∧ a = D0) ∨ (k ≠ i ∧ ρ[k]? = some (some (.ow c e)) ∧ σ[k]? = some (some (.ref a))) := fun {k c e a} z1 z2 => by
    rcases get_set z1 with ⟨rfl, y, _⟩ | ⟨n1, y1⟩
    · cases y
      rw [List.getElem?_set_self (by rw [I.len]; exact hl)] at z2
      cases z2
      exact .inl ⟨rfl, rfl, rfl, rfl⟩
    · rw [List.getElem?_set_ne (Ne.symm n1)] at z2
      exact .inr ⟨n1, y1, z2⟩
  refine ⟨I.sub, by simp [I.len], fun j dv e => ?_, fun j k b c d1 d2 q jk e1 e2 e3 e4 => ?_, I.keep, I.grow, I.low, fun q hq => ?_, I.lk, fun q hq => ?_, I.bx, fun k b es a e1 e2 => ?_⟩
  · rcases get_set e with ⟨rfl, z, _⟩ | ⟨hne, z⟩
    · cases z
      exact ⟨.ref D0, by rw [List.getElem?_set_self (by rw [I.len]; exact hl)], D0, rfl, pb, ⟨_, pa⟩, fun _ => h0, fun z => nomatch z⟩
    · obtain ⟨w, h1, h2⟩ := I.slot j dv z
      exact ⟨w, by rw [List.getElem?_set_ne (Ne.symm hne)]; exact h1, h2⟩
  · rcases back e1 e3 with ⟨rfl, _, _, rfl⟩ | ⟨n1, z1, y1⟩
    · rcases back e2 e4 with ⟨rfl, _, _, _⟩ | ⟨n2, z2, y2⟩
      · exact jk rfl
      · exact pc k c _ z2 y2
    · rcases back e2 e4 with ⟨rfl, _, _, rfl⟩ | ⟨n2, z2, y2⟩
      · exact pc j b _ z1 y1
      · exact I.dis j k b c _ _ q jk z1 z2 y1 y2
  · obtain ⟨d', h1, h2⟩ := I.bor q hq
    have ne : q.1 ≠ i := fun z => hn d' (by rw [← z]; exact h1)
    exact ⟨d', by rw [List.getElem?_set_ne (Ne.symm ne)]; exact h1, by rw [List.getElem?_set_ne (Ne.symm ne)]; exact h2⟩
  · obtain ⟨h1, h2, h3⟩ := I.pn q (List.mem_cons_of_mem _ (List.mem_append_right _ hq))
    refine ⟨h1, h2, fun j b d' e z => ?_⟩
    rcases back e z with ⟨rfl, _, _, y⟩ | ⟨_, z1, y1⟩
    · exact (hG q hq).1 y
    · exact h3 j b d' z1 y1
  · rcases back e1 e2 with ⟨rfl, rfl, z, rfl⟩ | ⟨n1, z1, y1⟩
    · cases z
      refine ⟨vs, pa, oa, by rw [ie]; exact nd, fun q hq => ?_⟩
      rw [ie] at hq
      refine ⟨.inl (hL q hq), fun r hr z => (hG r hr).2 (z ▸ hq), fun j c e p' x1 x2 => ?_⟩
      rcases back x1 x2 with ⟨rfl, _, _, rfl⟩ | ⟨n2, w1, w2⟩
      · exact ⟨fun z => hD (z ▸ hq), fun z => absurd rfl z⟩
      · exact ⟨fun z => slotL q hq j c e w1 (by rw [z]; exact w2), fun _ hq2 => nin q hq (fpI_in w1 w2 hq2)⟩
    · obtain ⟨ws, h1, h2, h3, h4⟩ := I.nn k b es a z1 y1
      have inA : ∀ q ∈ inn ws es, NinI H σ ρ q := fun q hq => ⟨k, b, es, a, ws, z1, y1, h1, hq⟩
      refine ⟨ws, h1, h2, h3, fun q hq => ⟨(h4 q hq).1, fun r hr => (h4 q hq).2.1 r (List.mem_cons_of_mem _ (List.mem_append_right _ hr)), fun j c e p' x1 x2 => ?_⟩⟩
      rcases back x1 x2 with ⟨rfl, _, y, rfl⟩ | ⟨n2, w1, w2⟩
      · cases y
        refine ⟨fun z => ninD (z ▸ inA q hq), fun _ hq2 => ?_⟩
        rw [fpI_nst pa, ie] at hq2
        exact nin q hq2 (inA q hq)
      · exact (h4 q hq).2.2 j c e p' w1 w2
theorem pins_of {H : Hp} : ∀ {qs : List Addr}, (∀ q ∈ qs, ∃ o, H q = some o ∧ Mut (some o)) → ∃ L : List (Addr × MutO), L.map (·.1) = qs ∧ ∀ r ∈ L, H r.1 = some r.2.1
  | [], _ => ⟨[], rfl, fun _ h => by cases h⟩
  | q :: qs, h => by
    obtain ⟨o, e, m⟩ := h q List.mem_cons_self
    obtain ⟨L, e1, e2⟩ := pins_of (qs := qs) fun a ha => h a (List.mem_cons_of_mem _ ha)
    refine ⟨(q, ⟨o, m⟩) :: L, by rw [List.map_cons, e1], fun r hr => ?_⟩
    rcases List.mem_cons.mp hr with rfl | hr
    · exact e
    · exact e2 r hr
theorem Rel.pinL {K : Kf} {G : Gh} {F H : Hp} {σ : L2.St} {ρ : En} (I : Rel K G F H σ ρ) : ∀ (L : List (Addr × MutO)), (∀ r ∈ L, H r.1 = some r.2.1 ∧ F r.1 = none ∧ (∀ (i : Nat) (b : Bool) (d : D), ρ[i]? = some (some (.ow b d)) → σ[i]? ≠ some (some (.ref r.1))) ∧ ¬ NinI H σ ρ r.1) → Rel K (G.pins L) F H σ ρ
  | [], _ => I
  | r :: L, h => by
    have I1 := Rel.pinL I L fun a ha => h a (List.mem_cons_of_mem _ ha)
    obtain ⟨a, b, c, d⟩ := h r List.mem_cons_self
    exact I1.pinO (p := r.1) (o := r.2) a b c d
theorem set_self' {σ : L2.St} {i : Nat} {x : Option V} (h : σ[i]? = some x) : σ.set i x = σ := by
  apply List.ext_getElem?
  intro j
  by_cases e : j = i
  · subst e
    rw [h, List.getElem?_set_self (List.getElem?_eq_some_iff.mp h).1]
  · rw [List.getElem?_set_ne (Ne.symm e)]
theorem Rel.aside {K : Kf} {G : Gh} {F H : Hp} {σ : L2.St} {ρ : En} (I : Rel K G F H σ ρ) {i : Nat} {ds : List D} {p : Addr} {vs : List V} (hi : ρ[i]? = some (some (.ow false (.nst ds)))) (hσ : σ[i]? = some (some (.ref p))) (hp : H p = some (.lst vs)) :
    ∃ G', Rel K G' F H σ (ρ.set i none) ∧ ∀ F' H' ρ', Le F F' → Rel K G' F' H' σ ρ' → ρ'[i]? = some none → H' p = some (.lst vs) ∧ (∀ q ∈ inn vs ds, H' q = H q) ∧ Rel K G F' H' σ (ρ'.set i (some (.ow false (.nst ds)))) := by
  obtain ⟨v, hs, p0, e0, fp, _, w1, _⟩ := I.slot i _ hi
  rw [hσ] at hs; cases hs; cases e0
  obtain ⟨vs', hp', oa, nd, hk⟩ := I.nn i false ds p hi hσ
  rw [hp] at hp'; cases hp'
  obtain ⟨L, e1, e2⟩ := pins_of fun q hq => (oa.inner q hq).2
  have I0 := I.drop (i := i) fun d z => by rw [hi] at z; cases z
  have g : ∀ {j : Nat} {dv : DV}, (ρ.set i none)[j]? = some (some dv) → j ≠ i ∧ ρ[j]? = some (some dv) := fun e => by
    rcases get_set e with ⟨_, z, _⟩ | z
    · cases z
    · exact z
  have I1 : Rel K (G.pins L) F H σ (ρ.set i none) := I0.pinL L fun r hr => by
    have hq : r.1 ∈ inn vs ds := by rw [← e1]; exact List.mem_map.mpr ⟨r, hr, rfl⟩
    refine ⟨e2 r hr, (oa.inner _ hq).1, fun j b d z1 z2 => ?_, fun ⟨j, b, es, p1, ws, h1, h2, h3, h4⟩ => ?_⟩
    · exact ((hk _ hq).2.2 j b d _ (g z1).2 z2).1 rfl
    · have := ((hk _ hq).2.2 j b _ p1 (g h1).2 h2).2 (g h1).1
      rw [fpI_nst h3] at this
      exact this h4
  have I2 : Rel K ((G.pins L).pin p vs) F H σ (ρ.set i none) := I1.pinO (p := p) (o := ⟨.lst vs, trivial⟩) hp fp (fun j b d z1 z2 => I.dis j i _ _ _ _ p (g z1).1 (g z1).2 hi z2 hσ) fun ⟨j, b, es, p1, ws, h1, h2, h3, h4⟩ => by
    obtain ⟨ws', h5, _, _, h6⟩ := I.nn j b es p1 (g h1).2 h2
    rw [h3] at h5; cases h5
    exact ((h6 p h4).2.2 i false _ p hi hσ).1 rfl
  refine ⟨_, I2, fun F' H' ρ' le I' hn => ?_⟩
  obtain ⟨pa, pb, pc⟩ := I'.pn (p, ⟨.lst vs, trivial⟩) List.mem_cons_self
  have same : ∀ q ∈ inn vs ds, H' q = H q ∧ F' q = none := fun q hq => by
    rw [← e1] at hq
    obtain ⟨r, hr, rfl⟩ := List.mem_map.mp hq
    obtain ⟨a, b, _⟩ := I'.pn r (List.mem_cons_of_mem _ (List.mem_append_left _ hr))
    exact ⟨by rw [a, e2 r hr], b⟩
  have oa' : OA K F' H' vs ds := oa.mono le same
  have se : setE i (.ow false (.nst ds)) ρ' = some (ρ'.set i (some (.ow false (.nst ds)))) := by unfold setE; rw [hn]
  have := Rel.ownG I' oa' e1.symm (by rw [e1]; exact nd) (by rw [e1]; exact fun z => ((hk p z).2.2 i false _ p hi hσ).1 rfl) (w1 rfl) (fun q hq => by
    rw [e1] at hq
    exact (hk q hq).1.elim id fun z => nomatch z.1) (fun q hq => ⟨fun z => (I.pn q hq).2.2 i _ _ hi (by rw [z]; exact hσ), fun z => by rw [e1] at z; exact (hk _ z).2.1 q hq rfl⟩) se
  rw [set_self' hσ] at this
  exact ⟨pa, fun q hq => (same q hq).1, this⟩
/-! ### an inner thing is other -/
theorem Rel.mutIn {K : Kf} {G : Gh} {F H : Hp} {σ : L2.St} {ρ : En} {i n : Nat} {b : Bool} {ds : List D} {p q : Addr} {vs : List V} {e e' : D} {o : HO} (I : Rel K G F H σ ρ) (hi : ρ[i]? = some (some (.ow b (.nst ds)))) (hσ : σ[i]? = some (some (.ref p))) (hp : H p = some (.lst vs)) (hv : vs[n]? = some (.ref q)) (hd : ds[n]? = some (.mu e)) (mo : Mut (some o)) (ob : Ob0 K F (upd H q o) q e') :
    Rel K G F (upd H q o) σ (ρ.set i (some (.ow b (.nst (ds.set n (.mu e')))))) := by
  obtain ⟨vs', hp', oa, nd, hk⟩ := I.nn i b ds p hi hσ
  rw [hp] at hp'; cases hp'
  have qi := inn_get hv hd
  have fq := (oa.inner q qi).1
  have qp : q ≠ p := fun z => ((hk q qi).2.2 i b _ p hi hσ).1 z
  have np : p ∉ inn vs ds := fun z => ((hk p z).2.2 i b _ p hi hσ).1 rfl
  obtain ⟨oa2, in2⟩ := oa.setMu (o := o) (e' := e') fq ob nd hv hd
  refine I.mutN (H0n := fun _ => some (.lst [])) hi hσ (fun a _ h2 => upd_ne fun z => h2 (by rw [z, fpI_nst hp]; exact qi)) ⟨vs, by rw [upd_ne (Ne.symm qp)]; exact hp⟩ ⟨vs, by rw [upd_ne (Ne.symm qp)]; exact hp, oa2, by rw [in2]; exact nd, by rw [in2]; exact np, fun a h => .inr (by rw [fpI_nst hp]; rw [in2] at h; exact h)⟩ (fun q h => no_new h) fun a h => ?_
  rw [fpI_nst hp] at h
  by_cases z : a = q
  · subst z; exact ⟨_, upd_same, mo⟩
  · rw [upd_ne z]; exact (oa.inner a h).2
theorem Rel.afterIn {K : Kf} {G : Gh} {F H F' H' : Hp} {σ : L2.St} {ρ : En} {i n : Nat} {b : Bool} {ds : List D} {p q : Addr} {vs : List V} {e e' : D} (I : Rel K G F H σ ρ) (hi : ρ[i]? = some (some (.ow b (.nst ds)))) (hσ : σ[i]? = some (some (.ref p))) (hp : H p = some (.lst vs)) (hv : vs[n]? = some (.ref q)) (hd : ds[n]? = some (.mu e))
    (sub : Sub F' H') (le : Le F F') (new : ∀ a o, F' a = some o → Gw F H a o) (same : ∀ a o, H a = some o → a ≠ q → H' a = some o) (fq' : F' q = none) (ob : Ob0 K F' H' q e') : Rel K G F' H' σ (ρ.set i (some (.ow b (.nst (ds.set n (.mu e')))))) := by
  obtain ⟨vs', hp', oa, nd, hk⟩ := I.nn i b ds p hi hσ
  rw [hp] at hp'; cases hp'
  have qi := inn_get hv hd
  obtain ⟨o', ho', mo'⟩ := ob.has
  obtain ⟨H2, hH2⟩ : ∃ H2 : Hp, H2 = fun a => if a = q then H q else H' a := ⟨_, rfl⟩
  have in2 : H2 q = H q := by rw [hH2]; show (if _ then _ else _) = _; rw [if_pos rfl]
  have out2 : ∀ a, a ≠ q → H2 a = H' a := fun a h => by rw [hH2]; show (if _ then _ else _) = _; rw [if_neg h]
  have nw : Nw F H F' H2 := by
    refine ⟨fun a x e => ?_, le, new, fun a x e => ?_⟩
    · rw [out2 a fun z => by rw [z, fq'] at e; cases e]
      exact sub a x e
    · by_cases z : a = q
      · rw [z, in2, ← z]; exact e
      · rw [out2 a z]; exact same a x e z
  have I2 := I.nw nw
  have ee : upd H2 q o' = H' := by
    funext a
    by_cases z : a = q
    · rw [z, upd_same, ho']
    · rw [upd_ne z, out2 a z]
  have := I2.mutIn (o := o') (e' := e') hi hσ (nw.same _ _ hp) hv hd mo' (by rw [ee]; exact ob)
  rw [ee] at this
  exact this
end DL

set_option Elab.async false
set_option linter.all false
set_option maxRecDepth 100000
set_option maxHeartbeats 4000000
namespace DL
open PySem PySem.Spec PyProof.Rows L2
/-! ### calls with a thing that stands in a nested list -/
def isC0 : D → Bool
  | .lst _ => true
  | .dic _ => true
  | .dit _ => true
  | .ins _ _ => true
  | _ => false
theorem Ob0.of0 {K : Kf} {F H : Hp} {p : Addr} {d : D} (h : Ob K F H p d) (c : isC0 d = true) : Ob0 K F H p d := by
  cases d <;> first | exact h | cases c
theorem Ob0.ob {K : Kf} {F H : Hp} {p : Addr} {d : D} (h : Ob0 K F H p d) : Ob K F H p d ∧ isN d = false := by
  cases d <;> first | exact ⟨h, rfl⟩ | exact h.elim
def twoI : D → Bool
  | .ins _ fs => twoF fs
  | _ => false
/-- the nested slot while its thing is used -/
def nstF (ρ : En) (i : Nat) : Option (List D) := match ρ[i]? with
  | some (some (.ow false (.nst ds))) => some ds
  | _ => none
theorem nstF_eq {ρ : En} {i : Nat} {ds : List D} (h : nstF ρ i = some ds) : ρ[i]? = some (some (.ow false (.nst ds))) := by
  unfold nstF at h
  split at h
  · cases h; assumption
  · cases h
def noSl (ρ : En) (i : Nat) : Bool := match ρ[i]? with
  | some none => true
  | _ => false
theorem noSl_eq {ρ : En} {i : Nat} (h : noSl ρ i = true) : ρ[i]? = some none := by
  unfold noSl at h
  split at h
  · assumption
  · cases h
def mEl (ok : D → Bool) (i : Nat) (mk : ME) (mf : List D → Option (D × D)) (ma : MA) : ME := fun ρ => (nstAt ρ i).bind fun _ => (mk ρ).bind fun p => (vw p.2 p.1).bind fun kd => match kd with
  | .int k => (nstF p.2 i).bind fun ds => (ixN ds.length k).bind fun n => match ds[n]? with
    | some (.mu e) => if ok e = true then (ma (p.2.set i none)).bind fun r => (frs r.1 r.2).bind fun q => if noSl q.2 i = true then (mf (e :: q.1)).bind fun z => if isC0 z.2 = true then some (.fz z.1, q.2.set i (some (.ow false (.nst (ds.set n (.mu z.2)))))) else none else none else none
    | _ => none
  | _ => none
theorem spB_in {K : Kf} {G : Gh} {F2 H2 : Hp} {σ : L2.St} {ρ2 : En} {n m i : Nat} {e : D} {mf : List D → Option (D × D)} {xs ds : List D} {ws vs : List V} {d d' : D} {p q : Addr} {Q : VK} {E : XK}
    (I2 : Rel K G F2 H2 σ ρ2) (hi : ρ2[i]? = some (some (.ow false (.nst xs)))) (hσ : σ[i]? = some (some (.ref p))) (hp : H2 p = some (.lst ws)) (hv : ws[m]? = some (.ref q)) (hd : xs[m]? = some (.mu e)) (r2 : RA K F2 vs ds) (hl : vs.length = n) (e4 : mf (e :: ds) = some (d, d')) (hc : isC0 d' = true)
    (k : ∀ F' H' v, Le F2 F' → Rel K G F' H' σ (ρ2.set i (some (.ow false (.nst (xs.set m (.mu d')))))) → R K F' v d → Q v H') : spB K (n + 1) 0 mf (.ref q :: (vs ++ [])) H2 Q E := by
  obtain ⟨ws', hp', oa, nd, hk⟩ := I2.nn i false xs p hi hσ
  rw [hp] at hp'; cases hp'
  obtain ⟨v0, hv0, q', e0, fq, ob0⟩ := oa.get hd
  rw [hv] at hv0; cases hv0; cases e0
  obtain ⟨ob, hn⟩ := ob0.ob
  have dj : (((e :: ds : List D)[0]?).getD .non) = e := rfl
  rw [List.append_nil]
  refine ⟨by rw [List.length_cons, hl], by omega, F2, e :: ds, q, I2.sub, fq, ⟨by rw [List.length_cons, List.length_cons, r2.length], fun j v dd hv hd2 => ?_⟩, d, d', e4, fun F3 H3 v sub le new same fp3 ob3 nb3 bx3 r3 => ?_⟩
  · split
    · rename_i ij
      subst ij
      cases hv
      cases hd2
      exact ⟨rfl, ob, NstB.plain hn⟩
    · rename_i ij
      obtain ⟨j', rfl⟩ : ∃ j', j = j' + 1 := ⟨j - 1, by omega⟩
      obtain ⟨v2, hv2, r3⟩ := r2.get (i := j') (d := dd) (by simpa using hd2)
      have hv : vs[j']? = some v := by simpa using hv
      rw [hv] at hv2
      cases hv2
      exact r3
  · rw [dj] at same
    rw [fpI_plain hn] at same
    exact k F3 H3 v le (I2.afterIn hi hσ hp hv hd sub le new (fun a o e1 e2 => same a o e1 e2 (by simp)) fp3 (.of0 ob3 hc)) r3
theorem set_at {ρ : En} {i : Nat} {x : Option DV} {dv : Option DV} (h : ρ[i]? = some x) : (ρ.set i dv)[i]? = some dv := List.getElem?_set_self (List.getElem?_eq_some_iff.mp h).1
theorem set_set' {ρ : En} {i : Nat} {x y : Option DV} : (ρ.set i x).set i y = ρ.set i y := List.set_set ..
section
variable {X : Cx} {x m f : Str} {np np2 pos pos2 pos3 apos : Pos} {e b : Expr} {es : List Expr} {k n : Nat} {g : Addr} {fd : FuncData} {ps : List Str} {mf : List D → Option (D × D)} {ma : MA} {C : Addr} {mk : ME}
def mMethN (i : Nat) (mk : ME) (mf : List D → Option (D × D)) (ma : MA) : ME := mEl twoI i mk mf ma
theorem de_methN (i : Nat) {pl : Sem Bool} (hA : InsA X.K 0 C) (cl : Cls X.K C) (hm : Meth X.K C m g) (F : FnOk X.prog X.w X.K X.mg X.base CX0 k g fd ps (spB X.K (n + 1) 0 mf)) (hr : Room k X.A) (hb : Binds X.K fd ps []) (hk : DE X b mk) (ha : DAn X (e :: es) n ma) (h1 : (m == ("web" : Str)) = false := by decide) (h2 : (m == ("past" : Str)) = false := by decide)
    (hN : X.N[i]? = some x := by rfl) (hv : Vis X.env.scope x := by first | exact Or.inl rfl | exact Or.inr (Or.inl rfl) | exact Or.inr (Or.inr rfl)) (hdb : (x == ("__debug__" : Str)) = false := by decide) (hcd : (x == ("__classdict__" : Str)) = false := by decide) (hs : PlainIx b := by exact fun _ _ => rfl)
    (hst : starEach (e :: es) X.env = (false, eval e X.env) :: starEach es X.env := by rfl) (hpl : (backTo pos (starEach es X.env)).any (·.1) = false := by rfl)
    (ht : eval (.Call (.Attribute (.Subscript (.Name x np) b pos2) m apos) (e :: es) [] pos) X.env = (do
      let ov ← eval (.Subscript (.Name x np) b pos2) X.env
      standAt apos.atName
      let (f, first) ← holding [ov] (getMethod ov m pl)
      callWith pos f first (backTo pos (starEach (e :: es) X.env)) (backToKw pos (keywordEach [] X.env))) := by rfl) : DE X (.Call (.Attribute (.Subscript (.Name x np) b pos2) m apos) (e :: es) [] pos) (mMethN i mk mf ma) :=
  peImp (pe_meth (pl := pl) (pe_ix ix_seq (pe_var hN hv hdb hcd) hk hs) cl hm F hr hb .nil pass0 ha.da hst hpl ht) fun σ H Q ⟨G, F, ρ, I, r, ρ', e, k⟩ => by
    obtain ⟨⟨b0, ds0⟩, e0, e⟩ := Option.bind_eq_some_iff.mp e
    obtain ⟨⟨r1, ρ1⟩, e1, e⟩ := Option.bind_eq_some_iff.mp e
    obtain ⟨kd, e2, e⟩ := Option.bind_eq_some_iff.mp e
    dsimp only at e
    cases kd <;> first | cases e | skip
    rename_i kk
    obtain ⟨ds, e3, e⟩ := Option.bind_eq_some_iff.mp e
    obtain ⟨nn, e4, e⟩ := Option.bind_eq_some_iff.mp e
    split at e
    case h_2 => cases e
    case h_1 el hel =>
    split at e
    case isFalse => cases e
    case isTrue hok =>
    obtain ⟨⟨rs, ρ2⟩, e5, e⟩ := Option.bind_eq_some_iff.mp e
    obtain ⟨⟨dd, ρ3⟩, e6, e⟩ := Option.bind_eq_some_iff.mp e
    split at e
    case isFalse => cases e
    case isTrue hno =>
    obtain ⟨⟨d, d'⟩, e7, e⟩ := Option.bind_eq_some_iff.mp e
    split at e
    case isFalse => cases e
    case isTrue hc =>
    cases e
    obtain ⟨p, _, _, hσ, _⟩ := I.nest e0
    refine ⟨.ref p, hσ, G, F, ρ, I, r1, _, e1, fun F1 H1 v1 l1 I1 k1 => ?_⟩
    have kv : v1 = .int kk := I1.vw k1 e2
    have hi := nstF_eq e3
    obtain ⟨p2, vs, _, hσ2, hp, _, oa, nd, _⟩ := I1.nest (b := false) (ds := ds) (by unfold nstAt; rw [hi])
    rw [hσ] at hσ2
    cases hσ2
    obtain ⟨v, hv, q, rfl, fq, ob⟩ := oa.get hel
    refine .inl ⟨p, vs, kk, .ref q, rfl, kv, .of hp, atI_of2 (by rw [oa.length]; exact e4) hv, ?_⟩
    cases el <;> first | cases hok | skip
    rename_i c fs
    obtain ⟨C', dx, vf, hA', hq, fdx, rs'⟩ := ob
    obtain rfl := hA.uniq hA'
    obtain ⟨G', I2, back⟩ := I1.aside hi hσ hp
    refine ⟨q, dx, vf, rfl, hq, rs'.none (twoF_no hok h1 h2), G', F1, _, I2, rs, ρ2, e5, fun F2 H2 us l2 I3 k3 => ?_⟩
    obtain ⟨F3, l3, I4, r4⟩ := I3.frs k3 e6
    obtain ⟨hp3, _, I5⟩ := back F3 H2 ρ3 (l2.trans l3) I4 (noSl_eq hno)
    refine spB_in (E := E0) I5 (set_at (noSl_eq hno)) hσ hp3 hv hel r4 (by rw [← ha.ln _ _ _ e5]; exact k3.length) e7 hc fun F' H' v le I' rv => k F' H' v (((l1.trans l2).trans l3).trans le) ?_ rv
    rw [set_set'] at I'
    exact I'
/-! #### f(xs[k], ..) -/
def mCallBN (i : Nat) (mk : ME) (mf : List D → Option (D × D)) (ma : MA) : ME := mEl isC0 i mk mf ma
theorem de_callBN (i : Nat) (F : FnOk X.prog X.w X.K X.mg X.base CX0 k g fd ps (spB X.K (n + 1) 0 mf)) (hr : Room k X.A) (hg : Gl X f) (hm : X.mg f = some (.ref g)) (hkp : PySem.W.keepIn X.K (.ref g) = true) (hb : Binds X.K fd ps []) (hk : DE X b mk) (ha : DAn X es n ma)
    (hN : X.N[i]? = some x := by rfl) (hv : Vis X.env.scope x := by first | exact Or.inl rfl | exact Or.inr (Or.inl rfl) | exact Or.inr (Or.inr rfl)) (hdb : (x == ("__debug__" : Str)) = false := by decide) (hcd : (x == ("__classdict__" : Str)) = false := by decide) (hdf : (f == ("__debug__" : Str)) = false := by decide) (hs : PlainIx b := by exact fun _ _ => rfl)
    (hst : starEach (.Subscript (.Name x np) b pos2 :: es) X.env = (false, eval (.Subscript (.Name x np) b pos2) X.env) :: starEach es X.env := by rfl) (hpl : (backTo pos (starEach es X.env)).any (·.1) = false := by rfl) :
    DE X (.Call (.Name f np2) (.Subscript (.Name x np) b pos2 :: es) [] pos) (mCallBN i mk mf ma) :=
  peImp (pe_call F hr hg hm hkp hb .nil pass0 (pa_cons (pe_ix ix_seq (pe_var hN hv hdb hcd) hk hs) ha.da hst) hdf hst hpl) fun σ H Q ⟨G, F, ρ, I, r, ρ', e, k⟩ => by
    obtain ⟨⟨b0, ds0⟩, e0, e⟩ := Option.bind_eq_some_iff.mp e
    obtain ⟨⟨r1, ρ1⟩, e1, e⟩ := Option.bind_eq_some_iff.mp e
    obtain ⟨kd, e2, e⟩ := Option.bind_eq_some_iff.mp e
    dsimp only at e
    cases kd <;> first | cases e | skip
    rename_i kk
    obtain ⟨ds, e3, e⟩ := Option.bind_eq_some_iff.mp e
    obtain ⟨nn, e4, e⟩ := Option.bind_eq_some_iff.mp e
    split at e
    case h_2 => cases e
    case h_1 el hel =>
    split at e
    case isFalse => cases e
    case isTrue hok =>
    obtain ⟨⟨rs, ρ2⟩, e5, e⟩ := Option.bind_eq_some_iff.mp e
    obtain ⟨⟨dd, ρ3⟩, e6, e⟩ := Option.bind_eq_some_iff.mp e
    split at e
    case isFalse => cases e
    case isTrue hno =>
    obtain ⟨⟨d, d'⟩, e7, e⟩ := Option.bind_eq_some_iff.mp e
    split at e
    case isFalse => cases e
    case isTrue hc =>
    cases e
    obtain ⟨p, _, _, hσ, _⟩ := I.nest e0
    refine ⟨.ref p, hσ, G, F, ρ, I, r1, _, e1, fun F1 H1 v1 l1 I1 k1 => ?_⟩
    have kv : v1 = .int kk := I1.vw k1 e2
    have hi := nstF_eq e3
    obtain ⟨p2, vs, _, hσ2, hp, _, oa, nd, _⟩ := I1.nest (b := false) (ds := ds) (by unfold nstAt; rw [hi])
    rw [hσ] at hσ2
    cases hσ2
    obtain ⟨v, hv, q, rfl, fq, ob⟩ := oa.get hel
    refine .inl ⟨p, vs, kk, .ref q, rfl, kv, .of hp, atI_of2 (by rw [oa.length]; exact e4) hv, ?_⟩
    obtain ⟨G', I2, back⟩ := I1.aside hi hσ hp
    refine ⟨G', F1, _, I2, rs, ρ2, e5, fun F2 H2 us l2 I3 k3 => ?_⟩
    obtain ⟨F3, l3, I4, r4⟩ := I3.frs k3 e6
    obtain ⟨hp3, _, I5⟩ := back F3 H2 ρ3 (l2.trans l3) I4 (noSl_eq hno)
    refine spB_in (E := E0) I5 (set_at (noSl_eq hno)) hσ hp3 hv hel r4 (by rw [← ha.ln _ _ _ e5]; exact k3.length) e7 hc fun F' H' v le I' rv => k F' H' v (((l1.trans l2).trans l3).trans le) ?_ rv
    rw [set_set'] at I'
    exact I'
end
/-! ### x = [C(..) for ..]: new instances in a list of one's own -/
theorem make_of {K : Kf} {G : Gh} {F2 H1 : Hp} {σ : L2.St} {ρ2 : En} {n : Nat} {C : Addr} {mf : List D → Option (D × D)} {vs : List V} {ds : List D} {c : Nat} {fs : List (Str × D)} {a dx : Addr} {Q : VK}
    (I2 : Rel K G F2 H1 σ ρ2) (hA : InsA K 0 C) (r2 : RA K F2 vs ds) (hl : vs.length = n) (e3 : mf (.ins 0 [] :: ds) = some (.non, .ins c fs)) (ha1 : H1 a = none) (hd1 : H1 dx = none) (ne : dx ≠ a)
    (k : ∀ F3 H3, Nw F2 H1 F3 H3 → F3 a = none → Ob K F3 H3 a (.ins c fs) → Q .non H3) : spB K (n + 1) 0 mf (.ref a :: (vs ++ [])) (upd (upd H1 dx (.own a)) a (.ins C dx [])) Q E0 := by
  rw [List.append_nil]
  have n1 := Nw.new_ I2.sub hd1 (o := .own a)
  have ha2 : (upd H1 dx (.own a)) a = none := by rw [upd_ne (Ne.symm ne)]; exact ha1
  have fa : F2 a = none := I2.sub.free ha1
  have fa' : (upd F2 dx (.own a)) a = none := by rw [upd_ne (Ne.symm ne)]; exact fa
  have sub1 : Sub (upd F2 dx (.own a)) (upd (upd H1 dx (.own a)) a (.ins C dx [])) := fun b o e => by
    have nb : b ≠ a := fun z => by rw [z, fa'] at e; cases e
    rw [upd_ne nb]
    exact n1.sub b o e
  have le1 : Le F2 (upd F2 dx (.own a)) := n1.le
  refine ⟨by rw [List.length_cons, hl], by omega, upd F2 dx (.own a), .ins 0 [] :: ds, a, sub1, fa', ⟨by rw [List.length_cons, List.length_cons, r2.length], fun j v dd hv hd2 => ?_⟩, .non, .ins c fs, e3, fun F3 H3 v sub le new same fp3 ob3 nb3 bx3 r3 => ?_⟩
  · split
    · rename_i ij
      subst ij
      cases hv
      cases hd2
      exact ⟨rfl, ⟨C, dx, [], hA, upd_same, upd_same, .nil⟩, trivial⟩
    · rename_i ij
      obtain ⟨j', rfl⟩ : ∃ j', j = j' + 1 := ⟨j - 1, by omega⟩
      obtain ⟨v2, hv2, r3⟩ := r2.get (i := j') (d := dd) (by simpa using hd2)
      have hv : vs[j']? = some v := by simpa using hv
      rw [hv] at hv2
      cases hv2
      exact r3.mono le1
  · have dj : (((.ins 0 [] :: ds : List D)[0]?).getD .non) = .ins 0 [] := rfl
    rw [dj] at same
    have same1 : Same H1 H3 := fun b o e => by
      have nb : b ≠ a := fun z => by rw [z, ha1] at e; cases e
      have nd : b ≠ dx := fun z => by rw [z, hd1] at e; cases e
      exact same b o (by rw [upd_ne nb, upd_ne nd]; exact e) nb (by intro z; cases z)
    have nw : Nw F2 H1 F3 H3 := by
      refine ⟨sub, le1.trans le, fun b o e => ?_, same1⟩
      rcases new b o e with z | z | ⟨⟨ts, rfl⟩, z⟩
      · by_cases hb : b = dx
        · exact .inr (.inl (by rw [hb]; exact hd1))
        · rw [upd_ne hb] at z; exact .inl z
      · refine .inr (.inl ?_)
        by_cases hb : b = a
        · rw [hb]; exact ha1
        · rw [upd_ne hb] at z
          by_cases hd : b = dx
          · rw [hd]; exact hd1
          · rw [upd_ne hd] at z; exact z
      · have nb : b ≠ a := fun y => by rw [y, upd_same] at z; cases z
        rw [upd_ne nb] at z
        have nd : b ≠ dx := fun y => by rw [y, upd_same] at z; cases z
        rw [upd_ne nd] at z
        exact .inr (.inr ⟨⟨ts, rfl⟩, z⟩)
    have ev : v = .non := by cases r3; rfl
    rw [ev]
    exact k F3 H3 nw fp3 ob3
inductive RowsI (K : Kf) (F : Hp) : List (Addr × MutO) → List D → Prop
  | nil : RowsI K F [] []
  | cons {q C dx : Addr} {vs : List (Str × V)} {c : Nat} {fs : List (Str × D)} {L : List (Addr × MutO)} {ds : List D} : InsA K c C → F dx = some (.own q) → RS K F vs fs → RowsI K F L ds → RowsI K F ((q, ⟨.ins C dx vs, trivial⟩) :: L) (.mu (.ins c fs) :: ds)
theorem RowsI.mono {K : Kf} {F F' : Hp} (l : Le F F') : ∀ {L : List (Addr × MutO)} {ds : List D}, RowsI K F L ds → RowsI K F' L ds
  | _, _, .nil => .nil
  | _, _, .cons a b r t => .cons a (l _ _ b) (r.mono l) (t.mono l)
theorem RowsI.append {K : Kf} {F : Hp} : ∀ {L M : List (Addr × MutO)} {ds es : List D}, RowsI K F L ds → RowsI K F M es → RowsI K F (L ++ M) (ds ++ es)
  | _, _, _, _, .nil, h => h
  | _, _, _, _, .cons a b r t, h => .cons a b r (t.append h)
theorem RowsI.length {K : Kf} {F : Hp} : ∀ {L : List (Addr × MutO)} {ds : List D}, RowsI K F L ds → L.length = ds.length
  | _, _, .nil => rfl
  | _, _, .cons _ _ _ t => by rw [List.length_cons, List.length_cons, t.length]
theorem RowsI.oa {K : Kf} {F H : Hp} : ∀ {L : List (Addr × MutO)} {ds : List D}, RowsI K F L ds → (∀ r ∈ L, H r.1 = some r.2.1 ∧ F r.1 = none) → OA K F H (refs L) ds ∧ inn (refs L) ds = L.map (·.1)
  | _, _, .nil, _ => ⟨.nil, rfl⟩
  | _, _, .cons a0 b0 r t, h => by
    obtain ⟨a, b⟩ := t.oa fun r hr => h r (List.mem_cons_of_mem _ hr)
    obtain ⟨c, d⟩ := h _ List.mem_cons_self
    refine ⟨.cons ⟨_, rfl, d, _, _, _, a0, c, b0, r⟩ a, ?_⟩
    show _ :: inn (refs _) _ = _
    rw [b]
    rfl
def lcLI (g : MG) (vs : List Nat) (mt : MT) (mf : List D → Option (D × D)) (ma : MA) : List D → En → Option (List D × En)
  | [], ρ => some ([], ρ)
  | d :: ds, ρ => (g d (wipeE ρ vs)).bind fun ρ1 => (mt ρ1).bind fun p => if p.1 = true then (ma p.2).bind (fun z => (frs z.1 z.2).bind fun q => (mf (.ins 0 [] :: q.1)).bind fun r => match r with
      | (.non, .ins c fs) => if q.2.length = ρ.length then (lcLI g vs mt mf ma ds (unw ρ q.2 vs)).bind fun y => some (.mu (.ins c fs) :: y.1, y.2) else none
      | _ => none)
      else if p.2.length = ρ.length then lcLI g vs mt mf ma ds (unw ρ p.2 vs) else none
theorem lcI_of {K : Kf} {mi : MI} {g : MG} {tg : TG} {vs : List Nat} {mt : MT} {mf : List D → Option (D × D)} {ma : MA} {n : Nat} {C : Addr} {σ : L2.St} {H : Hp} {Q : VK} {G : Gh} {F : Hp} {ρ ρ1 ρ9 : En} {ds tot : List D}
    (hA : InsA K 0 C) (hln : ∀ ρ rs ρ', ma ρ = some (rs, ρ') → rs.length = n)
    (hg : ∀ G F H σ ρ d v ρ' Q, Rel K G F H σ ρ → R K F v d → g d ρ = some ρ' → (∀ σ', Rel K G F H σ' ρ' → L2.wipe σ' vs = L2.wipe σ vs → Q σ' H) → tg v σ H Q)
    (I : Rel K G F H σ ρ) (e1 : mi ρ = some (ds, ρ1)) (hW : okW vs ρ1 = true) (hcap : ds.length ≤ cap) (e9 : lcLI g vs mt mf ma ds ρ1 = some (tot, ρ9))
    (k : ∀ F2 H2 D0 L, Le F F2 → Rel K ((G.pins L).pin D0 (refs L)) F2 H2 σ ρ9 → RowsI K F2 L tot → (L.map (·.1)).Nodup → D0 ∉ L.map (·.1) → G.H0 D0 = none → (∀ q ∈ L.map (·.1), G.H0 q = none) → (∀ q ∈ G.Pn, q.1 ≠ D0 ∧ q.1 ∉ L.map (·.1)) → Q (.ref D0) H2) :
    tLc (tI K mi) tg (tT K mt) (tMake C (spB K (n + 1) 0 mf) [] E0 (tA K ma)) vs σ H Q := by
  refine ⟨G, F, ρ, I, ds, ρ1, e1, fun F1 H1 J l1 I1 ⟨CC, Y, wk, hC, hY⟩ D hD => ?_⟩
  have h0D : G.H0 D = none := I1.fresh hD
  have pnD : ∀ q ∈ G.Pn, q.1 ≠ D := fun q hq z => by
    have := (I1.pn q hq).1
    rw [z, hD] at this; cases this
  refine lc_it wk (fun i H => ∃ F2 ρ2 acc L rest, Le F1 F2 ∧ Rel K ((G.pins L).pin D (refs L)) F2 H σ ρ2 ∧ RowsI K F2 L acc ∧ acc.length ≤ i ∧ okW vs ρ2 = true ∧ lcLI g vs mt mf ma (ds.drop i) ρ2 = some (rest, ρ9) ∧ acc ++ rest = tot ∧
      (L.map (·.1)).Nodup ∧ D ∉ L.map (·.1) ∧ (∀ q ∈ L.map (·.1), G.H0 q = none) ∧ ∀ q ∈ G.Pn, q.1 ∉ L.map (·.1))
    ⟨F1, ρ1, [], [], tot, Same.refl _, ?_, .nil, Nat.le_refl _, hW, e9, rfl, by simp, by simp, by simp, by simp⟩ (fun i H hi ⟨F2, ρ2, acc, L, rest, l2, I2, _⟩ => hC F2 H l2 I2.sub fun q hq => (I2.lk q hq).1) (fun i x H2 H2' hi ⟨F2, ρ2, acc, L, rest, l2, I2, ra, hl, ok2, e2, et, n1, n2, n3, n4⟩ y => ?_) (fun H2 ⟨F2, ρ2, acc, L, rest, l2, I2, ra, hl, ok2, e2, et, n1, n2, n3, n4⟩ => ?_)
  · exact I1.pinNew hD ⟨.lst [], trivial⟩
  · obtain ⟨d, F3, ed, nw, r⟩ := hY i F2 H2 x H2' hi l2 I2.sub y
    have hd : ds.drop i = d :: ds.drop (i + 1) := by
      rw [List.drop_eq_getElem_cons hi]
      rw [List.getElem?_eq_getElem hi] at ed
      rw [Option.some.inj ed]
    rw [hd] at e2
    unfold lcLI at e2
    obtain ⟨ρ3, e3, e2⟩ := Option.bind_eq_some_iff.mp e2
    obtain ⟨⟨b, ρ4⟩, e4, e5⟩ := Option.bind_eq_some_iff.mp e2
    have I3 := I2.nw nw
    refine hg ((G.pins L).pin D (refs L)) F3 H2' (L2.wipe σ vs) (wipeE ρ2 vs) d x ρ3 _ (I3.wipe ok2) r e3 fun σ4 I4 hw4 => ⟨?_, (G.pins L).pin D (refs L), F3, ρ3, I4, b, ρ4, e4, fun F5 H5 l5 I5 => ?_⟩
    · rw [hw4]
      exact wipe_wipe
    have hw5 : L2.wipe σ4 vs = L2.wipe σ vs := by rw [hw4]; exact wipe_wipe
    cases b with
    | false =>
      dsimp only at e5
      rw [if_neg (by decide)] at e5
      split at e5
      · rename_i hlen
        have l35 : Le F2 F5 := nw.le.trans l5
        refine ⟨F5, DL.unw ρ2 ρ4 vs, acc, L, rest, l2.trans l35, ?_, ra.mono l35, by omega, okW_unw hlen ok2, e5, et, n1, n2, n3, n4⟩
        exact I2.unw ok2 I5 l35 hw5 hlen
      · cases e5
    | true =>
      dsimp only at e5
      rw [if_pos rfl] at e5
      obtain ⟨⟨rs, ρ5⟩, e6, e5⟩ := Option.bind_eq_some_iff.mp e5
      obtain ⟨⟨dd, ρ6⟩, e7, e5⟩ := Option.bind_eq_some_iff.mp e5
      obtain ⟨z, e8, e5⟩ := Option.bind_eq_some_iff.mp e5
      dsimp only at e5
      split at e5
      case h_2 => cases e5
      case h_1 c fs =>
      split at e5
      case isFalse => cases e5
      case isTrue hlen =>
      obtain ⟨⟨rest2, ρ8⟩, e10, e5⟩ := Option.bind_eq_some_iff.mp e5
      cases e5
      refine ⟨(G.pins L).pin D (refs L), F5, ρ4, I5, rs, ρ5, e6, fun F6 H6 us l6 I6 k6 => ?_⟩
      obtain ⟨F7, l7, I7, r7⟩ := I6.frs k6 e7
      intro p dx hp hdx hne
      refine make_of I7 hA r7 (by rw [← hln _ _ _ e6]; exact k6.length) e8 hp hdx hne fun F8 H8 nw8 fp8 ob8 => ⟨rfl, ?_⟩
      have I7b := I7.nw nw8
      obtain ⟨pa, pb, pc⟩ := I7.pn (D, ⟨.lst (refs L), trivial⟩) List.mem_cons_self
      have l26 : Le F2 F8 := (((nw.le.trans l5).trans l6).trans l7).trans nw8.le
      have lenA : (refs L).length = acc.length := by rw [← ra.length]; simp [refs]
      have pD : p ≠ D := fun z => by subst z; rw [hp] at pa; cases pa
      have pL : p ∉ L.map (·.1) := fun z => by
        obtain ⟨r, hr, z⟩ := List.mem_map.mp z
        have := (I7.pn r (List.mem_cons_of_mem _ (List.mem_append_left _ hr))).1
        rw [z, hp] at this; cases this
      have pG : ∀ q ∈ G.Pn, q.1 ≠ p := fun q hq z => by
        have := (I7.pn q (List.mem_cons_of_mem _ (List.mem_append_right _ hq))).1
        rw [z, hp] at this; cases this
      have p0 : G.H0 p = none := I7.fresh hp
      have J8 : Rel K ((G.pins L).pin D (refs L)) F7 H6 σ (DL.unw ρ2 ρ6 vs) := I2.unw ok2 I7 ((((nw.le.trans l5).trans l6)).trans l7) hw5 hlen
      have I8 := J8.nw nw8
      obtain ⟨C8, dx8, vs8, ia8, hp8, fd8, rs8⟩ := ob8
      have I9 := (I8.pinO (p := p) (o := ⟨.ins C8 dx8 vs8, trivial⟩) hp8 fp8 (fun j b d z1 z2 => by
        obtain ⟨v, h1, p', e1, _, ob', _⟩ := J8.slot j _ z1
        rw [z2] at h1; cases h1; cases e1
        obtain ⟨o', e2, _⟩ := ob'.has
        rw [hp] at e2; cases e2) (fun ⟨i1, b1, es, p1, ws, h1, h2, h3, h4⟩ => by
        obtain ⟨ws', h5, _⟩ := J8.nn i1 b1 es p1 h1 h2
        rw [nw8.same _ _ h5] at h3
        cases h3
        exact J8.nin hp ⟨_, _, _, _, _, h1, h2, h5, h4⟩)).pnSub ((D, ⟨.lst (refs L), trivial⟩) :: ((L ++ [(p, ⟨.ins C8 dx8 vs8, trivial⟩)]) ++ G.Pn)) fun q hq => by
        simp only [List.mem_cons, List.mem_append, List.not_mem_nil, or_false] at hq ⊢
        rcases hq with h | (h | h) | h
        · exact .inr (.inl h)
        · exact .inr (.inr (.inl h))
        · exact .inl h
        · exact .inr (.inr (.inr h))
      have hx : ∀ q ∈ (L ++ [(p, (⟨.ins C8 dx8 vs8, trivial⟩ : MutO))]) ++ G.Pn, q.1 ≠ D := fun q hq => by
        simp only [List.mem_append, List.mem_cons, List.not_mem_nil, or_false] at hq
        rcases hq with (h | h) | h
        · exact fun z => n2 (List.mem_map.mpr ⟨q, h, z⟩)
        · subst h; exact pD
        · exact pnD q h
      have I10 := Rel.repin (G := G.pins (L ++ [(p, ⟨.ins C8 dx8 vs8, trivial⟩)])) (o := ⟨.lst (refs L), trivial⟩) I9 h0D hx ⟨.lst (refs L ++ [.ref p]), trivial⟩
      have er : refs L ++ [.ref p] = refs (L ++ [(p, ⟨.ins C8 dx8 vs8, trivial⟩)]) := by simp [refs]
      refine ⟨refs L, nw8.same _ _ pa, by rw [lenA]; exact cap_lt (by omega), F8, DL.unw ρ2 ρ6 vs, acc ++ [.mu (.ins c fs)], L ++ [(p, ⟨.ins C8 dx8 vs8, trivial⟩)], rest2, l2.trans l26, ?_, (ra.mono l26).append (.cons ia8 fd8 rs8 .nil), by rw [List.length_append, List.length_singleton]; omega, okW_unw hlen ok2, e10, by rw [List.append_assoc]; exact et, ?_, ?_, ?_, ?_⟩
      · rw [← er]; exact I10
      · rw [List.map_append, List.nodup_append]
        refine ⟨n1, by simp, fun a ha b hb => ?_⟩
        simp at hb
        subst hb
        exact fun z => pL (z ▸ ha)
      · rw [List.map_append, List.mem_append]
        rintro (h | h)
        · exact n2 h
        · simp at h; exact pD h.symm
      · intro q hq
        rw [List.map_append, List.mem_append] at hq
        rcases hq with h | h
        · exact n3 q h
        · simp at h; subst h; exact p0
      · intro q hq hz
        rw [List.map_append, List.mem_append] at hz
        rcases hz with h | h
        · exact n4 q hq h
        · simp at h; exact pG q hq h
  · rw [List.drop_length] at e2
    cases e2
    rw [List.append_nil] at et
    subst et
    exact k F2 H2 D L (l1.trans l2) I2 ra n1 n2 h0D n3 fun q hq => ⟨pnD q hq, n4 q hq⟩
def mSetLcI (i : Nat) (mi : MI) (g : MG) (vs : List Nat) (mt : MT) (mf : List D → Option (D × D)) (ma : MA) : MS := fun ρ => (mi ρ).bind fun p => if okW vs p.2 = true ∧ p.1.length ≤ cap then (lcLI g vs mt mf ma p.1 p.2).bind fun q => (setE i (.ow false (.nst q.1)) q.2).bind fun ρ' => some (.nx ρ') else none
theorem setLcI_of {X : Cx} {i n : Nat} {C : Addr} {tg iter : Expr} {ws : List Nat} {mi : MI} {g : MG} {mt : MT} {mf : List D → Option (D × D)} {ma : MA} {T : Ends} {σ : L2.St} {H : Hp} (hA : InsA X.K 0 C) (hln : ∀ ρ rs ρ', ma ρ = some (rs, ρ') → rs.length = n) (w : tS X (mSetLcI i mi g ws mt mf ma) T σ H) : tAsg (tLc (tI X.K mi) (tG X.K ws g) (tT X.K mt) (tMake C (spB X.K (n + 1) 0 mf) [] E0 (tA X.K ma)) ws) (gName i) T σ H := by
  obtain ⟨G, F, ρ, I, o, e, k⟩ := w
  obtain ⟨⟨ds, ρ1⟩, e1, e⟩ := Option.bind_eq_some_iff.mp e
  dsimp only at e
  split at e
  case isFalse => cases e
  case isTrue hok =>
  obtain ⟨hW, hcap⟩ := hok
  obtain ⟨⟨tot, ρ9⟩, e9, e⟩ := Option.bind_eq_some_iff.mp e
  obtain ⟨ρ3, e3, e⟩ := Option.bind_eq_some_iff.mp e
  cases e
  refine lcI_of hA hln (fun G F H σ ρ d v ρ' Q I r e k => ⟨G, F, ρ, d, I, r, ρ', e, k⟩) I e1 hW hcap e9 fun F2 H2 D0 L l2 I2 rws n1 n2 n3 n4 n5 => ?_
  have pr := fun r (hr : r ∈ L) => I2.pn r (List.mem_cons_of_mem _ (List.mem_append_left _ hr))
  obtain ⟨oa, ie⟩ := rws.oa (H := H2) fun r hr => ⟨(pr r hr).1, (pr r hr).2.1⟩
  exact k F2 H2 _ l2 (Rel.ownG I2 oa ie n1 n2 n3 n4 n5 e3)
theorem ln_nil : ∀ ρ rs ρ', mNil ρ = some (rs, ρ') → rs.length = 0 := fun ρ rs ρ' h => by cases h; rfl
theorem ln_cons {n : Nat} {m : ME} {ms : MA} (h : ∀ ρ rs ρ', ms ρ = some (rs, ρ') → rs.length = n) : ∀ ρ rs ρ', mCons m ms ρ = some (rs, ρ') → rs.length = n + 1 := fun ρ rs ρ' e => by
  obtain ⟨⟨r1, ρ1⟩, e1, e⟩ := Option.bind_eq_some_iff.mp e
  obtain ⟨⟨r2, ρ2⟩, e2, e⟩ := Option.bind_eq_some_iff.mp e
  cases e
  rw [List.length_cons, h _ _ _ e2]
theorem ds_setLcI {X : Cx} {i n : Nat} {C : Addr} {y x : Str} {py p pos4 : Pos} {e : Expr} {es : List Expr} {tg iter : Expr} {ifs : List Expr} {scope : Scope} {ws : List Nat} {pos spos : Pos} {mi : MI} {g : MG} {mt : MT} {mf : List D → Option (D × D)} {ma : MA} (own : List (Str × Nat)) (hA : InsA X.K 0 C) (hc : X.calm = true) (hN : X.N.Nodup) (hy : X.N[i]? = some y) (hyl : X.env.scope.names.lookup y = some .local)
    (hsw : swapsWith (.ListComp (.Call (.Name x p) (e :: es) [] pos4) [⟨tg, iter, ifs, 0⟩] scope pos) (some (.Name y py)) spos.line X.env = pure true) (hi : DI X tg iter mi) (ok : BlkOk X.N X.env.scope scope own)
    (hg : ∀ (s : Shared) (H : Hp) (C : Addr) (cl : List (Str × Addr)) (fp : List Addr), DG (X.blk s H scope (compEnvC scope cl C X.env) fp) tg ws g)
    (ht : ∀ (s : Shared) (H : Hp) (C : Addr) (cl : List (Str × Addr)) (fp : List Addr), PTs (X.blk s H scope (compEnvC scope cl C X.env) fp) ifs (tT X.K mt))
    (hln : ∀ ρ rs ρ', ma ρ = some (rs, ρ') → rs.length = n) (ha : ∀ (s : Shared) (H : Hp) (C : Addr) (cl : List (Str × Addr)) (fp : List Addr), DAn (X.blk s H scope (compEnvC scope cl C X.env) fp) (e :: es) n ma)
    (he : ∀ (s : Shared) (H : Hp) (C1 : Addr) (cl : List (Str × Addr)) (fp : List Addr), PA (X.blk s H scope (compEnvC scope cl C1 X.env) fp) (e :: es) (tA X.K ma) → PE (X.blk s H scope (compEnvC scope cl C1 X.env) fp) (.Call (.Name x p) (e :: es) [] pos4) (tMake C (spB X.K (n + 1) 0 mf) [] E0 (tA X.K ma))) (hw : own.map (·.2) = ws := by rfl) (hs : ∀ x, foldedSetIterable iter X.env x = pure x := by intro _; rfl) :
    DS X (.Assign [.Name y py] (.ListComp (.Call (.Name x p) (e :: es) [] pos4) [⟨tg, iter, ifs, 0⟩] scope pos) spos) (mSetLcI i mi g ws mt mf ma) := by
  subst hw
  exact psImp (ps_setLc (g := tG X.K (own.map (·.2)) g) (tt := tT X.K mt) (te := tMake C (spB X.K (n + 1) 0 mf) [] E0 (tA X.K ma)) hc hN hy hyl hsw hi ok hg ht (fun s H C1 cl fp => he s H C1 cl fp (ha s H C1 cl fp).da) hs) fun T σ H w => setLcI_of (tg := tg) (iter := iter) hA hln w
section
variable {ρ : En} {i : Nat} {mk : ME} {mf : List D → Option (D × D)} {ma : MA} {ok : D → Bool}
@[simp] theorem ev_mEl : mEl ok i mk mf ma ρ = (nstAt ρ i).bind fun _ => (mk ρ).bind fun p => (vw p.2 p.1).bind fun kd => match kd with
  | .int k => (nstF p.2 i).bind fun ds => (ixN ds.length k).bind fun n => match ds[n]? with
    | some (.mu e) => if ok e = true then (ma (p.2.set i none)).bind fun r => (frs r.1 r.2).bind fun q => if noSl q.2 i = true then (mf (e :: q.1)).bind fun z => if isC0 z.2 = true then some (.fz z.1, q.2.set i (some (.ow false (.nst (ds.set n (.mu z.2)))))) else none else none else none
    | _ => none
  | _ => none := rfl
@[simp] theorem ev_mMethN : mMethN i mk mf ma = mEl twoI i mk mf ma := rfl
@[simp] theorem ev_mCallBN : mCallBN i mk mf ma = mEl isC0 i mk mf ma := rfl
@[simp] theorem ev_nstAt : nstAt ρ i = match ρ[i]? with
  | some (some (.ow b (.nst ds))) => some (b, ds)
  | _ => none := rfl
@[simp] theorem ev_nstF : nstF ρ i = match ρ[i]? with
  | some (some (.ow false (.nst ds))) => some ds
  | _ => none := rfl
@[simp] theorem ev_noSl : noSl ρ i = match ρ[i]? with
  | some none => true
  | _ => false := rfl
@[simp] theorem ev_twoI {c : Nat} {fs : List (Str × D)} : twoI (.ins c fs) = twoF fs := rfl
@[simp] theorem ev_isC0 {c : Nat} {fs : List (Str × D)} : isC0 (.ins c fs) = true := rfl
@[simp] theorem ev_mSetLcI {mi : MI} {g : MG} {vs : List Nat} {mt : MT} : mSetLcI i mi g vs mt mf ma ρ = (mi ρ).bind fun p => if okW vs p.2 = true ∧ p.1.length ≤ cap then (lcLI g vs mt mf ma p.1 p.2).bind fun q => (setE i (.ow false (.nst q.1)) q.2).bind fun ρ' => some (.nx ρ') else none := rfl
@[simp] theorem ev_lcLI_nil {g : MG} {vs : List Nat} {mt : MT} : lcLI g vs mt mf ma [] ρ = some ([], ρ) := rfl
@[simp] theorem ev_lcLI_cons {g : MG} {vs : List Nat} {mt : MT} {d : D} {ds : List D} : lcLI g vs mt mf ma (d :: ds) ρ = (g d (wipeE ρ vs)).bind fun ρ1 => (mt ρ1).bind fun p => if p.1 = true then (ma p.2).bind (fun z => (frs z.1 z.2).bind fun q => (mf (.ins 0 [] :: q.1)).bind fun r => match r with
      | (.non, .ins c fs) => if q.2.length = ρ.length then (lcLI g vs mt mf ma ds (unw ρ q.2 vs)).bind fun y => some (.mu (.ins c fs) :: y.1, y.2) else none
      | _ => none)
      else if p.2.length = ρ.length then lcLI g vs mt mf ma ds (unw ρ p.2 vs) else none := rfl
end
end DL

set_option linter.all false
namespace WA
open PySem L2 DL
noncomputable def m__law_mix : MS := (mSeq (mSetO 2 (mOp dAdd (fzO (mOp dMod (mVar 0) (mC (.int 2147483629)))) (fzO (mOp dMulS (fzO (mOp dMulS (mC (.int 1000003)) (mVar 1))) (mVar 1))))) (mSeq (mSetO 2 (mOp dMod (fzO (mOp dAdd (mVar 2) (fzO (mOp dMulS (mC (.int 7919)) (mVar 1))))) (mC (.int 2147483629)))) (mSeq (mSetO 2 (mOp dMod (fzO (mOp dMulS (mVar 2) (mVar 2))) (mC (.int 2147483587)))) (mRet (fzO (mOp dDiv (fzO (mOp dMod (fzO (mOp dMulS (mVar 2) (fzO (mOp dAdd (mVar 2) (mC (.int 40961)))))) (mC (.int 2147483563)))) (mC (.int 4))))))))
noncomputable def f__law_mix : List D → Option D := fnP 3 m__law_mix
noncomputable def m__law_next : MS := (mSeq (mIf (mAnd (mTestO (mOp dEq (fzO (mOp dIx (mVar 0) (mC (.int 2)))) (mC (.int 0)))) (mTestO (mOp dLt (fzO (mOp dIx (mVar 0) (mC (.int 1)))) (fzO (mCB (f1 dLen) (mCons (fzO (mOp dIx (mVar 0) (mC (.int 0)))) mNil)))))) (mSeq (mSetO 2 (mOp dIx (fzO (mOp dIx (mVar 0) (mC (.int 0)))) (fzO (mOp dIx (mVar 0) (mC (.int 1)))))) (mSeq (mStore 0 (fzO (mOp dAdd (fzO (mOp dIx (mVar 0) (mC (.int 1)))) (mC (.int 1)))) (mC (.int 1))) (mSeq (mIf (mTestO (mOp dLt (mVar 2) (fzO (mOp dPow (mC (.int 10)) (mC (.int 18)))))) (mRet (fzO (mOp dMod (mCall f__law_mix (mCons (mVar 2) (mCons (fzO (mOp dIx (mVar 0) (mC (.int 1)))) mNil))) (mVar 1)))) mNx) (mStore 0 (mVar 2) (mC (.int 2)))))) mNx) (mSeq (mIf (mTestO (mOp dGt (fzO (mOp dIx (mVar 0) (mC (.int 2)))) (mC (.int 0)))) (mSeq (mSetO 3 (mOp dMod (fzO (mOp dIx (mVar 0) (mC (.int 2)))) (mVar 1))) (mSeq (mStore 0 (fzO (mOp dDiv (fzO (mOp dIx (mVar 0) (mC (.int 2)))) (mVar 1))) (mC (.int 2))) (mRet (mVar 3)))) mNx) (mSeq (mStore 0 (fzO (mOp dAdd (fzO (mOp dIx (mVar 0) (mC (.int 3)))) (mC (.int 1)))) (mC (.int 3))) (mRet (fzO (mOp dMod (mCall f__law_mix (mCons (fzO (mOp dIx (mVar 0) (mC (.int 4)))) (mCons (fzO (mOp dAdd (fzO (mOp dIx (mVar 0) (mC (.int 3)))) (mC (.int 421)))) mNil))) (mVar 1)))))))
noncomputable def f__law_next : List D → Option (D × D) := fnB 4 0 m__law_next
noncomputable def _law_names_ce1 : ME := (fzO (mOp dIx (mVar 2) (mCallB 0 f__law_next (mCons (mVar 0) (mCons (mC (.int 26)) mNil)))))
noncomputable def _law_names_ce2 : ME := (fzO (mOp dIx (mVar 2) (mCallB 0 f__law_next (mCons (mVar 0) (mCons (mC (.int 26)) mNil)))))
noncomputable def _law_names_wc1 : MT := (mTestO (mOp dIn (mVar 8) (mVar 6)))
noncomputable def _law_names_wb1 : MS := (mSeq (mSetO 8 (mOp dAdd (fzO (mOp dAdd (fzO (mOp dIx (mVar 2) (fzO (mOp dMod (mVar 9) (mC (.int 26)))))) (fzO (mOp dIx (mVar 2) (fzO (mOp dDiv (mVar 9) (mC (.int 26)))))))) (fzO (mSl (mVar 4) mNoP (mP (mC (.int 4))))))) (mSetO 9 (mOp dAdd (mVar 9) (mC (.int 1)))))
noncomputable def _law_names_fb1 : MS := (mSeq (mSetO 8 (mM1 dJoin (mC (.str "")) (fzO (mLc (mIA rng1 (mCons (fzO (mOp dAdd (mC (.int 1)) (mCallB 0 f__law_next (mCons (mVar 0) (mCons (mC (.int 8)) mNil))))) mNil)) (mGName 10) [10] mYes _law_names_ce2)))) (mSeq (mIf (mTestO (mOp dEq (mVar 3) (mC (.int 1)))) (mSeq (mSetO 8 (mOp dAdd (fzO (mSl (mVar 4) mNoP (mP (mVar 5)))) (fzO (mOp dIx (mVar 2) (fzO (mOp dMod (fzO (mOp dAdd (mVar 7) (mVar 5))) (mC (.int 26)))))))) (mSetO 8 (mOp dAdd (fzO (mOp dAdd (mVar 8) (fzO (mSl (mVar 4) (mP (mVar 5)) (mP (mC (.int 6))))))) (fzO (mOp dMulS (fzO (mOp dIx (mVar 4) (mC (.int 6)))) (fzO (mOp dDiv (mVar 7) (mC (.int 26))))))))) mNx) (mSeq (mIf (mAnd (mTestO (mOp dEq (mVar 3) (mC (.int 2)))) (mTestO (mOp dLt (mVar 7) (mC (.int 8))))) (mSetO 8 (mSl (mVar 4) mNoP (mP (fzO (mOp dAdd (mVar 7) (mC (.int 1))))))) mNx) (mSeq (mSet 9 (mC (.int 0))) (mSeq (mWhile _law_names_wc1 _law_names_wb1) (mDrop (mMut 6 fAppend (mCons (mVar 8) mNil))))))))
noncomputable def _law_names_ce3 : ME := (mMut 6 fPopAt (mCons (mCallB 0 f__law_next (mCons (mVar 0) (mCons (fzO (mCB (f1 dLen) (mCons (mVar 6) mNil))) mNil))) mNil))
noncomputable def m__law_names : MS := (mSeq (mSet 2 (mC (.str "abcdefghijklmnopqrstuvwxyz"))) (mSeq (mSet 3 (mCallB 0 f__law_next (mCons (mVar 0) (mCons (mC (.int 3)) mNil)))) (mSeq (mSetO 4 (mM1 dJoin (mC (.str "")) (fzO (mLc (mIA rng1 (mCons (mC (.int 8)) mNil)) (mGName 7) [7] mYes _law_names_ce1)))) (mSeq (mSet 5 (mCallB 0 f__law_next (mCons (mVar 0) (mCons (mC (.int 7)) mNil)))) (mSeq (mSetO 6 (mLst mNil)) (mSeq (mFor (mIA rng1 (mCons (mVar 1) mNil)) (mGName 7) _law_names_fb1) (mRet (fzO (mLc (mIA rng1 (mCons (mVar 1) mNil)) (mGName 7) [7] mYes _law_names_ce3)))))))))
noncomputable def f__law_names : List D → Option (D × D) := fnB 11 0 m__law_names
noncomputable def _law_web_ce1 : ME := (fzO (mOp dIx (mVar 3) (mCallB 0 f__law_next (mCons (mVar 0) (mCons (mVar 2) mNil)))))
noncomputable def _law_web_ce2 : ME := (mMut 11 fPopAt (mCons (mCallB 0 f__law_next (mCons (mVar 0) (mCons (fzO (mCB (f1 dLen) (mCons (mVar 11) mNil))) mNil))) mNil))
noncomputable def _law_web_fb1 : MS := (mSeq (mSet 8 (mCallB 0 f__law_next (mCons (mVar 0) (mCons (mC (.int 6)) mNil)))) (mSeq (mSetO 9 (mCB (f1 dList) (mCons (mVar 3) mNil))) (mSeq (mSet 10 (mCallB 0 f__law_next (mCons (mVar 0) (mCons (mVar 2) mNil)))) (mSeq (mIf (mTestO (mOp dEq (mVar 8) (mC (.int 0)))) (mSetO 9 (mLc (mIAny (mVar 3)) (mGName 12) [12] mYes _law_web_ce1)) mNx) (mSeq (mIf (mTestO (mOp dEq (mVar 8) (mC (.int 1)))) (mSeq (mSetO 11 (mCB (f1 dList) (mCons (mVar 3) mNil))) (mSetO 9 (mLc (mIAny (mVar 3)) (mGName 12) [12] mYes _law_web_ce2))) mNx) (mSeq (mIf (mTestO (mOp dEq (mVar 8) (mC (.int 2)))) (mStore 9 (fzO (mOp dIx (mVar 3) (mCallB 0 f__law_next (mCons (mVar 0) (mCons (mVar 2) mNil))))) (mVar 10)) mNx) (mSeq (mIf (mTestO (mOp dEq (mVar 8) (mC (.int 3)))) (mSetO 9 (mOp dMulS (fzO (mLst (mCons (fzO (mOp dIx (mVar 3) (mVar 10))) mNil))) (mVar 2))) mNx) (mSeq (mIf (mTestO (mOp dEq (mVar 8) (mC (.int 5)))) (mSetO 9 (mOp dAdd (fzO (mSl (mVar 3) (mP (mC (.int 1))) mNoP)) (fzO (mSl (mVar 3) mNoP (mP (mC (.int 1))))))) mNx) (mDrop (mMut 6 fAppend (mCons (fzO (mTup (mCons (mVar 7) (mCons (fzO (mOp dIx (fzO (mLst (mCons (mC (.int 1)) (mCons (mC (.int 99)) (mCons (fzO (mOp dAdd (mC (.int 1)) (mCallB 0 f__law_next (mCons (mVar 0) (mCons (mC (.int 99)) mNil))))) mNil))))) (mCallB 0 f__law_next (mCons (mVar 0) (mCons (mC (.int 3)) mNil))))) (mCons (fzO (mCB (f1 dTuple) (mCons (mVar 9) mNil))) mNil))))) mNil)))))))))))
noncomputable def m__law_web : MS := (mSeq (mSetO 2 (mOp dIx (fzO (mLst (mCons (fzO (mOp dAdd (mC (.int 1)) (mCallB 0 f__law_next (mCons (mVar 0) (mCons (mVar 1) mNil))))) (mCons (fzO (mOp dAdd (mC (.int 1)) (mCallB 0 f__law_next (mCons (mVar 0) (mCons (mC (.int 3)) mNil))))) (mCons (mVar 1) mNil))))) (mCallB 0 f__law_next (mCons (mVar 0) (mCons (mC (.int 3)) mNil))))) (mSeq (mSet 3 (mCallB 0 f__law_names (mCons (mVar 0) (mCons (mVar 2) mNil)))) (mSeq (mSetO 4 (mOp dAdd (mC (.int 1)) (mCallB 0 f__law_next (mCons (mVar 0) (mCons (mC (.int 8)) mNil))))) (mSeq (mSet 5 (mCallB 0 f__law_names (mCons (mVar 0) (mCons (mVar 4) mNil)))) (mSeq (mIf (mAnd (mTestO (mOp dLe (mVar 4) (mVar 2))) (mTestO (mOp dEq (mCallB 0 f__law_next (mCons (mVar 0) (mCons (mC (.int 3)) mNil))) (mC (.int 0))))) (mSetO 5 (mSl (fzO (mUn dRev (mVar 3))) mNoP (mP (mVar 4)))) mNx) (mSeq (mSetO 6 (mLst mNil)) (mSeq (mFor (mIAny (mVar 5)) (mGName 7) _law_web_fb1) (mRet (fzO (mTup (mCons (fzO (mCB (f1 dTuple) (mCons (mVar 3) mNil))) (mCons (fzO (mCB (f1 dTuple) (mCons (mVar 6) mNil))) mNil))))))))))))
noncomputable def f__law_web : List D → Option (D × D) := fnB 13 0 m__law_web
end WA

set_option Elab.async false
set_option linter.all false
set_option maxRecDepth 100000
set_option maxHeartbeats 4000000
namespace WA
open PySem L2 DL
noncomputable def nb3 : MS := (mSet 9 (mC (.int 0)))
end WA

set_option Elab.async false
set_option linter.all false
set_option maxRecDepth 100000
set_option maxHeartbeats 4000000
namespace WA
open PySem L2 DL
def mix (c k : Int) : Int :=
  let n1 := c % 2147483629 + 1000003 * k * k
  let n2 := (n1 + 7919 * k) % 2147483629
  let n3 := n2 * n2 % 2147483587
  n3 * (n3 + 40961) % 2147483563 / 4
theorem mix_spec (c k : Int) (h0 : 0 ≤ k) (h1 : k ≤ 1000000000) : f__law_mix [.int c, .int k] = some (.int (mix c k)) := by
  unfold f__law_mix fnP m__law_mix
  generalize e2 : (c % 2147483629 + 1000003 * k * k + 7919 * k) % 2147483629 = n2
  have b2 : 0 ≤ n2 ∧ n2 < 2147483629 := by omega
  generalize e3 : n2 * n2 % 2147483587 = n3
  have b3 : 0 ≤ n3 ∧ n3 < 2147483587 := by omega
  have a1 : mulOk 1000003 k = true := mulOk64 (by omega) (by omega)
  have a2 : mulOk (1000003 * k) k = true := mulOk64 (by omega) (by omega)
  have a3 : mulOk 7919 k = true := mulOk64 (by omega) (by omega)
  have a4 : mulOk n2 n2 = true := mulOk64 (by omega) (by omega)
  have a5 : mulOk n3 (n3 + 40961) = true := mulOk64 (by omega) (by omega)
  have d4 : ∀ i, divOk i 4 = true := fun i => divOk64 (by omega)
  simp [en0, a1, a2, a3, a4, a5, e2, e3, modOk_of, mix, d4]
def deckD (cells : List Int) (i cur cnt tot : Int) : D := .lst [.lst (cells.map D.int), .int i, .int cur, .int cnt, .int tot]
def DeckOk (n : Nat) (d : D) : Prop := ∃ cells i cur cnt tot, d = deckD cells i cur cnt tot ∧ 0 ≤ i ∧ i ≤ cells.length ∧ cells.length ≤ 63 ∧ 0 ≤ cur ∧ 0 ≤ cnt ∧ cnt ≤ n
theorem DeckOk.mono {n m : Nat} {d : D} (h : DeckOk n d) (l : n ≤ m) : DeckOk m d := by
  obtain ⟨cells, i, cur, cnt, tot, e, h1, h2, h3, h4, h5, h6⟩ := h
  exact ⟨cells, i, cur, cnt, tot, e, h1, h2, h3, h4, h5, by omega⟩
theorem DeckOk.lst {n : Nat} {d : D} (h : DeckOk n d) : ∃ xs, d = .lst xs := by
  obtain ⟨cells, i, cur, cnt, tot, e, _⟩ := h
  exact ⟨_, e⟩
theorem next_spec {n : Nat} {d : D} (hd : DeckOk n d) (hn : n ≤ 100000000) (many : Int) (h1 : 0 < many) (h2 : many ≤ 1000000000) :
    ∃ r d', f__law_next [d, .int many] = some (.int r, d') ∧ 0 ≤ r ∧ r < many ∧ DeckOk (n + 1) d' := by
  obtain ⟨cells, i, cur, cnt, tot, rfl, hi0, hi1, hl, hc, hk0, hk1⟩ := hd
  have dm : ∀ x, divOk x many = true := fun x => divOk64 (by omega)
  have p18 : powOk 10 18 = true := by decide
  unfold f__law_next fnB m__law_next deckD
  by_cases c1 : cur = 0
  · subst c1
    by_cases c2 : i < cells.length
    · obtain ⟨x, hx, _, hx2⟩ := atI_some (xs := cells.map D.int) hi0 (by simpa using c2)
      obtain ⟨c, hc1, rfl⟩ : ∃ c, cells[i.toNat]? = some c ∧ D.int c = x := by
        rw [List.getElem?_map] at hx2
        cases q : cells[i.toNat]? with
        | none => rw [q] at hx2; cases hx2
        | some c => rw [q] at hx2; exact ⟨c, rfl, Option.some.inj hx2⟩
      by_cases c3 : c < 1000000000000000000
      · refine ⟨mix c (i + 1) % many, deckD cells (i + 1) 0 cnt tot, ?_, Int.emod_nonneg _ (by omega), Int.emod_lt_of_pos _ h1, cells, i + 1, 0, cnt, tot, rfl, by omega, by omega, hl, by omega, hk0, by omega⟩
        simp [en1, en0, c2, hx, c3, p18, mix_spec c (i + 1) (by omega) (by omega), modOk_of, h1, owAt, deckD]
      · have c4 : 0 < c := by omega
        refine ⟨c % many, deckD cells (i + 1) (c / many) cnt tot, ?_, Int.emod_nonneg _ (by omega), Int.emod_lt_of_pos _ h1, cells, i + 1, c / many, cnt, tot, rfl, by omega, by omega, hl, Int.ediv_nonneg (by omega) (by omega), hk0, by omega⟩
        simp [en1, en0, c2, hx, c3, c4, p18, modOk_of, h1, owAt, deckD, dm]
    · refine ⟨mix tot (cnt + 1 + 421) % many, deckD cells i 0 (cnt + 1) tot, ?_, Int.emod_nonneg _ (by omega), Int.emod_lt_of_pos _ h1, cells, i, 0, cnt + 1, tot, rfl, by omega, by omega, hl, by omega, by omega, by omega⟩
      simp [en1, en0, c2, mix_spec tot (cnt + 1 + 421) (by omega) (by omega), modOk_of, h1, owAt, deckD]
  · have c4 : 0 < cur := by omega
    refine ⟨cur % many, deckD cells i (cur / many) cnt tot, ?_, Int.emod_nonneg _ (by omega), Int.emod_lt_of_pos _ h1, cells, i, cur / many, cnt, tot, rfl, by omega, by omega, hl, Int.ediv_nonneg (by omega) (by omega), hk0, by omega⟩
    simp [en1, en0, c1, c4, modOk_of, h1, owAt, deckD, dm]
def txs (ls : List (List Nat)) : List D := ls.map fun l => D.str (T l)
@[simp] theorem txs_len (ls : List (List Nat)) : (txs ls).length = ls.length := by simp [txs]
end WA

set_option Elab.async false
set_option linter.all false
set_option maxRecDepth 100000
set_option maxHeartbeats 4000000
namespace WA
open PySem L2 DL
theorem seq_of {a b : MS} {ρ ρ' : En} (h : a ρ = some (.nx ρ')) : mSeq a b ρ = b ρ' := by rw [ev_mSeq, h]; rfl
def NoOw (o : Option DV) : Prop := ∀ b e, o ≠ some (.ow b e)
theorem NoOw.elim {o : Option DV} (h : NoOw o) : o = none ∨ ∃ d, o = some (.fz d) := by
  cases o with
  | none => exact .inl rfl
  | some v => cases v with
    | fz d => exact .inr ⟨d, rfl⟩
    | ow b e => exact absurd rfl (h b e)
theorem NoOw.none : NoOw none := fun _ _ h => by cases h
theorem NoOw.fz (d : D) : NoOw (some (.fz d)) := fun _ _ h => by cases h
theorem rngD_len (lo : Int) (k : Nat) : (rngD lo k).length = k := by simp [rngD]
theorem perm_pop {α : Type} {xs : List α} {i : Nat} {x : α} (h : xs[i]? = some x) : (x :: xs.eraseIdx i).Perm xs := by
  induction xs generalizing i with
  | nil => simp at h
  | cons y xs ih =>
    cases i with
    | zero => simp at h; subst h; exact List.Perm.refl _
    | succ i =>
      simp at h
      rw [List.eraseIdx_cons_succ]
      exact (List.Perm.swap y x _).trans ((ih h).cons y)
end WA

set_option Elab.async false
set_option linter.all false
set_option maxRecDepth 100000
set_option maxHeartbeats 4000000
namespace WA
open PySem L2 DL
/-- a move of a web -/
structure MoveL where
  name : List Nat
  weight : Int
  images : List (List Nat)
def MoveL.D (m : MoveL) : D := .tup [.str (T m.name), .int m.weight, .tup (txs m.images)]
def MoveOk (states : List (List Nat)) (m : MoveL) : Prop := NameL m.name ∧ 1 ≤ m.weight ∧ m.weight ≤ 99 ∧ m.images.length = states.length ∧ ∀ x ∈ m.images, x ∈ states
end WA

set_option Elab.async false
set_option linter.all false
set_option maxRecDepth 100000
set_option maxHeartbeats 4000000
namespace WA
open PySem L2 DL
def NoBr (o : Option DV) : Prop := ∀ e, o ≠ some (.ow true e)
theorem NoBr.elim {o : Option DV} (h : NoBr o) : o = none ∨ (∃ d, o = some (.fz d)) ∨ ∃ d, o = some (.ow false d) := by
  cases o with
  | none => exact .inl rfl
  | some v => cases v with
    | fz d => exact .inr (.inl ⟨d, rfl⟩)
    | ow b e => cases b with
      | true => exact absurd rfl (h e)
      | false => exact .inr (.inr ⟨e, rfl⟩)
theorem NoBr.none : NoBr none := fun _ h => by cases h
theorem NoBr.fz (d : D) : NoBr (some (.fz d)) := fun _ h => by cases h
theorem NoBr.ow (d : D) : NoBr (some (.ow false d)) := fun _ h => by cases h
section
variable {n : Nat} {d : D} {most count way one : Int} {states : List (List Nat)} {called : D} {moves : List MoveL} {name : List Nat} {ims : List (List Nat)} {o11 : Option DV}
end
/-- a web: its states and its moves -/
def webD (states : List (List Nat)) (moves : List MoveL) : D := .tup [.tup (txs states), .tup (moves.map MoveL.D)]
structure WebOk (most : Int) (states : List (List Nat)) (moves : List MoveL) : Prop where
  s0 : 1 ≤ states.length
  s1 : (states.length : Int) ≤ max most 3
  snd : states.Nodup
  sna : ∀ x ∈ states, NameL x
  m0 : 1 ≤ moves.length
  m1 : moves.length ≤ 8
  mnd : (moves.map MoveL.name).Nodup
  mok : ∀ m ∈ moves, MoveOk states m
end WA

set_option Elab.async false
set_option linter.all false
set_option maxRecDepth 100000
set_option maxHeartbeats 4000000
namespace WA
open PySem L2 DL
end WA

set_option linter.all false
namespace LD
open PySem L2 DL
noncomputable def ways_of_fb1 : MS := (mStore 1 (fzO (mDictZip (mCons (fzO (mOp dIx (mVar 0) (mC (.int 0)))) (mCons (mVar 4) mNil)))) (mVar 2))
noncomputable def m_ways_of : MS := (mSeq (mSetO 1 mDicK) (mSeq (mFor (mIAny (fzO (mOp dIx (mVar 0) (mC (.int 1))))) (mGTup 3 (mGCons (mGName 2) (mGCons (mGName 3) (mGCons (mGName 4) mGNil)))) ways_of_fb1) (mRet (mVar 1))))
noncomputable def f_ways_of : List D → Option D := fnP 5 m_ways_of
noncomputable def led_by_ce1 : ME := (fzO (mOp dIx (fzO (mOp dIx (mVar 2) (mVar 4))) (mVar 5)))
noncomputable def led_by_fb1 : MS := (mSeq (mIf (mTestO (mOp dNotIn (mVar 4) (mVar 2))) mNever mNx) (mSetO 3 (mLc (mIAny (mVar 3)) (mGName 5) [5] mYes led_by_ce1)))
noncomputable def m_led_by : MS := (mSeq (mSet 2 (mCall f_ways_of (mCons (mVar 0) mNil))) (mSeq (mSetO 3 (mCB (f1 dList) (mCons (fzO (mOp dIx (mVar 0) (mC (.int 0)))) mNil))) (mSeq (mFor (mIAny (mVar 1)) (mGName 4) led_by_fb1) (mRet (fzO (mCB (f1 dTuple) (mCons (mVar 3) mNil)))))))
noncomputable def f_led_by : List D → Option D := fnP 6 m_led_by
noncomputable def _law_way_fb1 : MS := (mIf (mTestO (mOp dEq (mVar 2) (mVar 1))) (mRet (fzO (mDictZip (mCons (fzO (mOp dIx (mVar 0) (mC (.int 0)))) (mCons (mVar 4) mNil))))) mNx)
noncomputable def m__law_way : MS := (mSeq (mFor (mIAny (fzO (mOp dIx (mVar 0) (mC (.int 1))))) (mGTup 3 (mGCons (mGName 2) (mGCons (mGName 3) (mGCons (mGName 4) mGNil)))) _law_way_fb1) (mRet (fzO mDicK)))
noncomputable def f__law_way : List D → Option D := fnP 5 m__law_way
noncomputable def _law_led_fb1 : MS := (mSetO 3 (mOp dIx (mCall f__law_way (mCons (mVar 0) (mCons (mVar 4) mNil))) (mVar 3)))
noncomputable def _law_led_fb2 : MS := (mSeq (mFor (mIAny (mVar 1)) (mGName 4) _law_led_fb1) (mDrop (mMut 2 fAppend (mCons (mVar 3) mNil))))
noncomputable def m__law_led : MS := (mSeq (mSetO 2 (mLst mNil)) (mSeq (mFor (mIAny (fzO (mOp dIx (mVar 0) (mC (.int 0))))) (mGName 3) _law_led_fb2) (mRet (fzO (mCB (f1 dTuple) (mCons (mVar 2) mNil))))))
noncomputable def f__law_led : List D → Option D := fnP 5 m__law_led
end LD

set_option Elab.async false
set_option linter.all false
set_option maxRecDepth 100000
set_option maxHeartbeats 4000000
namespace LD
open PySem L2 DL WA
/-! ### dicts by texts -/
theorem dIx_dic {kv : List (D × D)} {k : D} : dIx (.dic kv) k = (dicGet (.dic kv) k).bind fun o => o.bind fun v => some (.val v) := by cases k <;> rfl
theorem dStore_dic {kv : List (D × D)} {k v : D} : dStore (.dic kv) k v = (keyOf k).bind fun q => if kv.length < cap then some (.dic (kPut keyOf kv k q v)) else none := rfl
def tk (l : List Nat) : Key := .inr (T l)
theorem tk_inj {a b : List Nat} : tk a = tk b ↔ a = b := by unfold tk; rw [Sum.inr.injEq, T_inj]
theorem keyOf_T (l : List Nat) : keyOf (.str (T l)) = some (tk l) := rfl
theorem keyD_tk (l : List Nat) : keyD (tk l) = .str (T l) := rfl
theorem keysL_txs : ∀ ls : List (List Nat), keysL (txs ls) = some (ls.map tk)
  | [] => rfl
  | l :: ls => by
    have := keysL_txs ls
    unfold txs at this ⊢
    simp [keysL, keyOf_T, this]
def dT (ks : List (List Nat)) (ds : List D) : List (D × D) := (ks.zip ds).map fun p => (D.str (T p.1), p.2)
theorem kPut_new {kv : List (D × D)} {l : List Nat} {d : D} (h : ∀ p ∈ kv, keyOf p.1 ≠ some (tk l)) : kPut keyOf kv (.str (T l)) (tk l) d = kv ++ [(.str (T l), d)] := by
  unfold kPut
  rw [if_neg]
  intro hc
  obtain ⟨p, hp, e⟩ := List.any_eq_true.mp hc
  exact h p hp (of_decide_eq_true e)
theorem kMerge_new : ∀ {ks : List (List Nat)} {ds : List D} {kv : List (D × D)}, ks.Nodup → (∀ k ∈ ks, ∀ p ∈ kv, keyOf p.1 ≠ some (tk k)) → kMerge kv ((ks.map tk).zip ds) = kv ++ dT ks ds
  | [], _, kv, _, _ => by simp [kMerge, dT]
  | _ :: _, [], kv, _, _ => by simp [kMerge, dT]
  | k :: ks, d :: ds, kv, nd, dis => by
    rw [List.nodup_cons] at nd
    have := kMerge_new (ks := ks) (ds := ds) (kv := kv ++ [(.str (T k), d)]) nd.2 (fun k' hk' p hp => by
      rcases List.mem_append.mp hp with h | h
      · exact dis k' (List.mem_cons_of_mem _ hk') p h
      · have : p = (.str (T k), d) := by simpa using h
        subst this
        rw [keyOf_T]
        intro e
        have : k = k' := tk_inj.mp (Option.some.inj e)
        exact nd.1 (this ▸ hk'))
    rw [List.map_cons, List.zip_cons_cons, kMerge, keyD_tk, kPut_new (dis k List.mem_cons_self), this]
    simp [dT]
theorem dZip_dT {a b : D} {ks : List (List Nat)} {ds : List D} (ha : seqD a = some (txs ks)) (hb : seqD b = some ds) (nd : ks.Nodup) (hl : ks.length = ds.length) : dZip a b = some (.newK (dT ks ds)) := by
  unfold dZip
  rw [ha, hb]
  simp only [Option.bind_some, keysL_txs, List.length_map]
  rw [if_pos hl, kMerge_new nd (fun k _ p hp => by simp at hp)]
  simp
theorem kGet_dT {ks : List (List Nat)} {ds : List D} {k : List Nat} : kGet keyOf (dT ks ds) (tk k) = (ks.zip ds).lookup k := by
  unfold kGet dT
  induction ks generalizing ds with
  | nil => simp
  | cons k0 ks ih =>
    cases ds with
    | nil => simp
    | cons d0 ds =>
      rw [List.zip_cons_cons, List.map_cons, List.find?_cons, List.lookup_cons]
      by_cases e : k0 = k
      · subst e; simp [keyOf_T]
      · have e1 : decide (keyOf (D.str (T k0)) = some (tk k)) = false := by
          rw [keyOf_T]; simp [tk_inj, e]
        have e2 : (k == k0) = false := by simp [Ne.symm e]
        rw [e1, e2]
        exact ih
theorem dIx_dT {ks : List (List Nat)} {ds : List D} {k : List Nat} {d : D} (h : (ks.zip ds).lookup k = some d) : dIx (.dic (dT ks ds)) (.str (T k)) = some (.val d) := by
  rw [dIx_dic]
  unfold dicGet
  simp [keyOf_T, kGet_dT, h]
theorem lookup_some {α : Type} : ∀ {ks : List (List Nat)} {ds : List α} {k : List Nat}, k ∈ ks → ks.length = ds.length → ∃ d, (ks.zip ds).lookup k = some d ∧ d ∈ ds
  | k0 :: ks, d0 :: ds, k, hk, hl => by
    rw [List.zip_cons_cons, List.lookup_cons]
    by_cases e : k = k0
    · subst e; exact ⟨d0, by simp, List.mem_cons_self⟩
    · have e2 : (k == k0) = false := by simp [e]
      rw [e2]
      obtain ⟨d, h1, h2⟩ := lookup_some (ks := ks) (ds := ds) (k := k) (by
        rcases List.mem_cons.mp hk with h | h
        · exact absurd h e
        · exact h) (by simpa using hl)
      exact ⟨d, h1, List.mem_cons_of_mem _ h2⟩
  | _ :: _, [], k, hk, hl => by simp at hl
theorem lookup_map {α β : Type} (f : α → β) : ∀ {ks : List (List Nat)} {ds : List α} {k : List Nat}, (ks.zip (ds.map f)).lookup k = ((ks.zip ds).lookup k).map f
  | [], _, k => by simp
  | _ :: _, [], k => by simp
  | k0 :: ks, d0 :: ds, k => by
    rw [List.map_cons, List.zip_cons_cons, List.zip_cons_cons, List.lookup_cons, List.lookup_cons]
    cases (k == k0) with
    | true => rfl
    | false => exact lookup_map f
theorem in_dT {ks : List (List Nat)} {ds : List D} {k : List Nat} {d : D} (h : (ks.zip ds).lookup k = some d) : dNotIn (.str (T k)) (.dic (dT ks ds)) = some (.val (.bl false)) := by
  unfold dNotIn dInB inFlat inDeep inSign inDic
  simp [seqD, dicGet, keyOf_T, kGet_dT, h]
/-! ### moves done -/
def imgs (moves : List MoveL) (name : List Nat) : List (List Nat) := (((moves.map MoveL.name).zip (moves.map MoveL.images)).lookup name).getD []
def go (states : List (List Nat)) (moves : List MoveL) (name s : List Nat) : List Nat := ((states.zip (imgs moves name)).lookup s).getD []
/-- the ways, as a dict of dicts -/
def waysD (states : List (List Nat)) (moves : List MoveL) : D := .dic (dT (moves.map MoveL.name) (moves.map fun m => D.dic (dT states (txs m.images))))
structure W0 (states : List (List Nat)) (moves : List MoveL) : Prop where
  snd : states.Nodup
  mnd : (moves.map MoveL.name).Nodup
  len : ∀ m ∈ moves, m.images.length = states.length
  mem : ∀ m ∈ moves, ∀ x ∈ m.images, x ∈ states
  small : states.length ≤ 1000
  few : moves.length ≤ 1000
theorem W0.of {most : Int} {states : List (List Nat)} {moves : List MoveL} (h : WebOk most states moves) (hm : most ≤ 52) : W0 states moves :=
  ⟨h.snd, h.mnd, fun m hm => (h.mok m hm).2.2.2.1, fun m hm => (h.mok m hm).2.2.2.2, by have := h.s1; omega, by have := h.m1; omega⟩
section
variable {states : List (List Nat)} {moves : List MoveL} (h : W0 states moves)
include h
theorem imgs_at {name : List Nat} (hn : name ∈ moves.map MoveL.name) : ((moves.map MoveL.name).zip (moves.map MoveL.images)).lookup name = some (imgs moves name) ∧ (imgs moves name).length = states.length ∧ ∀ x ∈ imgs moves name, x ∈ states := by
  obtain ⟨d, h1, h2⟩ := lookup_some (ds := moves.map MoveL.images) hn (by simp)
  have e : imgs moves name = d := by unfold imgs; rw [h1]; rfl
  rw [e]
  obtain ⟨m, hm, rfl⟩ := List.mem_map.mp h2
  exact ⟨h1, h.len m hm, h.mem m hm⟩
theorem go_at {name s : List Nat} (hn : name ∈ moves.map MoveL.name) (hs : s ∈ states) : (states.zip (imgs moves name)).lookup s = some (go states moves name s) ∧ go states moves name s ∈ states := by
  obtain ⟨_, i1, i2⟩ := imgs_at h hn
  obtain ⟨d, h1, h2⟩ := lookup_some (ds := imgs moves name) hs i1.symm
  have e : go states moves name s = d := by unfold go; rw [h1]; rfl
  rw [e]
  exact ⟨h1, i2 _ h2⟩
theorem ways_spec : f_ways_of [webD states moves] = some (waysD states moves) := by
  have hcap : cap = 1000000 := rfl
  have key : ∃ o2 o3 o4, forL (mGTup 3 (mGCons (mGName 2) (mGCons (mGName 3) (mGCons (mGName 4) mGNil)))) ways_of_fb1 (moves.map MoveL.D) [some (.fz (webD states moves)), some (.ow false (.dic [])), none, none, none] = some (.nx [some (.fz (webD states moves)), some (.ow false (waysD states moves)), o2, o3, o4]) := by
    refine forL_ex (g := (mGTup 3 (mGCons (mGName 2) (mGCons (mGName 3) (mGCons (mGName 4) mGNil))))) (b := ways_of_fb1) (ds := moves.map MoveL.D) (ρ := [some (.fz (webD states moves)), some (.ow false (.dic [])), none, none, none]) (P := fun i ρ => ∃ o2 o3 o4, NoOw o2 ∧ NoOw o3 ∧ NoOw o4 ∧ ρ = [some (.fz (webD states moves)), some (.ow false (waysD states (moves.take i))), o2, o3, o4])
      ⟨none, none, none, NoOw.none, NoOw.none, NoOw.none, rfl⟩ (fun i x ρ hx ⟨o2, o3, o4, h2, h3, h4, hr⟩ => ?_) (fun ρ' e ⟨o2, o3, o4, h2, h3, h4, hr⟩ => ?_)
    · subst hr
      have hi : i < moves.length := by have := (List.getElem?_eq_some_iff.mp hx).1; simpa using this
      have ex : x = moves[i].D := by
        simp [hi] at hx
        exact hx.symm
      subst ex
      have hmm := List.getElem_mem hi
      have e1 : moves.take (i + 1) = moves.take i ++ [moves[i]] := by rw [List.take_add_one]; simp [hi]
      have hfresh : ∀ p ∈ dT ((moves.take i).map MoveL.name) ((moves.take i).map fun m => D.dic (dT states (txs m.images))), keyOf p.1 ≠ some (tk moves[i].name) := by
        intro p hp e
        unfold dT at hp
        obtain ⟨q, hq, rfl⟩ := List.mem_map.mp hp
        have h1 : q.1 = moves[i].name := by
          rw [keyOf_T] at e
          exact tk_inj.mp (Option.some.inj e)
        have h2 : q.1 ∈ (moves.take i).map MoveL.name := (List.of_mem_zip hq).1
        rw [h1] at h2
        have nd := h.mnd
        have e2 : moves = moves.take i ++ moves[i] :: moves.drop (i + 1) := by
          rw [List.getElem_cons_drop, List.take_append_drop]
        rw [e2, List.map_append, List.nodup_append] at nd
        exact nd.2.2 _ h2 moves[i].name (List.mem_map.mpr ⟨moves[i], List.mem_cons_self, rfl⟩) rfl
      generalize moves[i] = m at hmm e1 hfresh
      refine ⟨[some (.fz (webD states moves)), some (.ow false (waysD states (moves.take i))), some (.fz (.str (T m.name))), some (.fz (.int m.weight)), some (.fz (.tup (txs m.images)))], _, ?_, .inl ?_, some (.fz (.str (T m.name))), some (.fz (.int m.weight)), some (.fz (.tup (txs m.images))), NoOw.fz _, NoOw.fz _, NoOw.fz _, rfl⟩
      · unfold MoveL.D
        rcases h2.elim with h | ⟨_, h⟩ <;> rcases h3.elim with h' | ⟨_, h'⟩ <;> rcases h4.elim with h'' | ⟨_, h''⟩ <;> subst h <;> subst h' <;> subst h'' <;> simp
      · unfold ways_of_fb1
        have w0 : dIx (webD states moves) (.int 0) = some (.val (.tup (txs states))) := by unfold webD; simp
        have z1 : dZip (.tup (txs states)) (.tup (txs m.images)) = some (.newK (dT states (txs m.images))) := dZip_dT rfl rfl h.snd (by simp [h.len m hmm])
        have hlen : (dT ((moves.take i).map MoveL.name) ((moves.take i).map fun m => D.dic (dT states (txs m.images)))).length < cap := by
          have := h.few
          rw [hcap]
          simp [dT]
          omega
        have st : dStore (waysD states (moves.take i)) (.str (T m.name)) (.dic (dT states (txs m.images))) = some (waysD states (moves.take (i + 1))) := by
          unfold waysD
          rw [dStore_dic, keyOf_T, Option.bind_some, if_pos hlen, kPut_new hfresh, e1]
          congr 2
          unfold dT
          rw [List.map_append, List.map_append, List.zip_append (by simp)]
          simp
        simp [mDictZip, w0, z1, st]
    · rw [List.length_map, List.take_length] at hr
      exact ⟨o2, o3, o4, by rw [e, hr]⟩
  obtain ⟨o2, o3, o4, key⟩ := key
  have w1 : dIx (webD states moves) (.int 1) = some (.val (.tup (moves.map MoveL.D))) := by unfold webD; simp
  unfold f_ways_of fnP m_ways_of
  simp [en0, w1, key]
end
/-! ### loops -/
/-- a comprehension that changes nothing -/
theorem lcL_map {g : MG} {vs : List Nat} {mt : MT} {me : ME} (f : D → D) : ∀ {ds : List D} {ρ : En}, (∀ d ∈ ds, ∃ ρ1, g d (wipeE ρ vs) = some ρ1 ∧ mt ρ1 = some (true, ρ1) ∧ me ρ1 = some (.fz (f d), ρ1) ∧ ρ1.length = ρ.length ∧ unw ρ ρ1 vs = ρ) → lcL g vs mt me ds ρ = some (ds.map f, ρ)
  | [], ρ, _ => rfl
  | d :: ds, ρ, h => by
    obtain ⟨ρ1, e1, e2, e3, hl, hu⟩ := h d List.mem_cons_self
    have ih := lcL_map f (ds := ds) (ρ := ρ) fun d hd => h d (List.mem_cons_of_mem _ hd)
    unfold lcL
    simp [e1, e2, e3, hl, hu, ih]
theorem lookup_at {α : Type} : ∀ {ks : List (List Nat)} {ds : List α} {j : Nat} {k : List Nat} {d : α}, ks.Nodup → ks[j]? = some k → ds[j]? = some d → (ks.zip ds).lookup k = some d
  | k0 :: ks, d0 :: ds, 0, k, d, _, h1, h2 => by
    simp at h1 h2
    subst h1 h2
    simp [List.lookup_cons]
  | k0 :: ks, d0 :: ds, j + 1, k, d, nd, h1, h2 => by
    rw [List.nodup_cons] at nd
    rw [List.zip_cons_cons, List.lookup_cons]
    have hk : k ∈ ks := List.mem_of_getElem? (by simpa using h1)
    have e : (k == k0) = false := by
      simp
      exact fun e => nd.1 (e ▸ hk)
    rw [e]
    exact lookup_at nd.2 (by simpa using h1) (by simpa using h2)
  | [], _, _, _, _, _, h1, _ => by simp at h1
  | _ :: _, [], _, _, _, _, _, h2 => by simp at h2
section
variable {states : List (List Nat)} {moves : List MoveL} (h : W0 states moves)
include h
def led (states : List (List Nat)) (moves : List MoveL) (past : List (List Nat)) : List (List Nat) := past.foldl (fun l name => l.map (go states moves name)) states
omit h in
theorem led_snoc {past : List (List Nat)} {name : List Nat} : led states moves (past ++ [name]) = (led states moves past).map (go states moves name) := by
  unfold led; rw [List.foldl_append]; rfl
theorem led_mem {past : List (List Nat)} (hp : ∀ x ∈ past, x ∈ moves.map MoveL.name) : ∀ x ∈ led states moves past, x ∈ states := by
  suffices g : ∀ (past l : List (List Nat)), (∀ x ∈ past, x ∈ moves.map MoveL.name) → (∀ x ∈ l, x ∈ states) → ∀ x ∈ past.foldl (fun l name => l.map (go states moves name)) l, x ∈ states from g past states hp fun _ h => h
  intro past
  induction past with
  | nil => intro l _ hl; exact hl
  | cons a past ih =>
    intro l hp hl
    refine ih _ (fun x hx => hp x (List.mem_cons_of_mem _ hx)) fun x hx => ?_
    obtain ⟨s, hs, rfl⟩ := List.mem_map.mp hx
    exact (go_at h (hp a List.mem_cons_self) (hl s hs)).2
omit h in
theorem led_len (past : List (List Nat)) : (led states moves past).length = states.length := by
  unfold led
  suffices g : ∀ l : List (List Nat), (past.foldl (fun l name => l.map (go states moves name)) l).length = l.length from g states
  induction past with
  | nil => intro l; rfl
  | cons a past ih => intro l; rw [List.foldl_cons, ih]; simp
theorem led_spec {past : List (List Nat)} (hp : ∀ x ∈ past, x ∈ moves.map MoveL.name) : f_led_by [webD states moves, .tup (txs past)] = some (.tup (txs (led states moves past))) := by
  have hcap : cap = 1000000 := rfl
  have w0 : dIx (webD states moves) (.int 0) = some (.val (.tup (txs states))) := by unfold webD; simp
  have key : ∃ o4, forL (mGName 4) led_by_fb1 (txs past) [some (.fz (webD states moves)), some (.fz (.tup (txs past))), some (.fz (waysD states moves)), some (.ow false (.lst (txs states))), none, none] = some (.nx [some (.fz (webD states moves)), some (.fz (.tup (txs past))), some (.fz (waysD states moves)), some (.ow false (.lst (txs (led states moves past)))), o4, none]) := by
    refine forL_ex (g := mGName 4) (b := led_by_fb1) (ds := txs past) (ρ := [some (.fz (webD states moves)), some (.fz (.tup (txs past))), some (.fz (waysD states moves)), some (.ow false (.lst (txs states))), none, none]) (P := fun i ρ => ∃ o4, NoOw o4 ∧ ρ = [some (.fz (webD states moves)), some (.fz (.tup (txs past))), some (.fz (waysD states moves)), some (.ow false (.lst (txs (led states moves (past.take i))))), o4, none])
      ⟨none, NoOw.none, rfl⟩ (fun i x ρ hx ⟨o4, h4, hr⟩ => ?_) (fun ρ' e ⟨o4, h4, hr⟩ => ?_)
    · subst hr
      have hi : i < past.length := by have := (List.getElem?_eq_some_iff.mp hx).1; simpa using this
      have ex : x = .str (T past[i]) := by
        unfold txs at hx
        simp [hi] at hx
        exact hx.symm
      subst ex
      have hname := hp _ (List.getElem_mem hi)
      have e1 : past.take (i + 1) = past.take i ++ [past[i]] := by rw [List.take_add_one]; simp [hi]
      have hsub := led_mem h (past := past.take i) fun x hx => hp x (List.mem_of_mem_take hx)
      have hlen := led_len (states := states) (moves := moves) (past.take i)
      rw [e1, led_snoc]
      generalize led states moves (past.take i) = l at hsub hlen
      generalize past[i] = name at hname
      refine ⟨[some (.fz (webD states moves)), some (.fz (.tup (txs past))), some (.fz (waysD states moves)), some (.ow false (.lst (txs l))), some (.fz (.str (T name))), none], _, ?_, .inl ?_, some (.fz (.str (T name))), NoOw.fz _, rfl⟩
      · rcases h4.elim with h | ⟨_, h⟩ <;> subst h <;> simp
      · unfold led_by_fb1
        obtain ⟨i1, i2, i3⟩ := imgs_at h hname
        have lk : ((moves.map MoveL.name).zip (moves.map fun m => D.dic (dT states (txs m.images)))).lookup name = some (.dic (dT states (txs (imgs moves name)))) := by
          have := lookup_map (fun l => D.dic (dT states (txs l))) (ks := moves.map MoveL.name) (ds := moves.map MoveL.images) (k := name)
          rw [i1, List.map_map] at this
          exact this
        have q1 : dNotIn (.str (T name)) (waysD states moves) = some (.val (.bl false)) := in_dT lk
        have q2 : dIx (waysD states moves) (.str (T name)) = some (.val (.dic (dT states (txs (imgs moves name))))) := dIx_dT lk
        have lc : lcL (mGName 5) [5] mYes led_by_ce1 (txs l) [some (.fz (webD states moves)), some (.fz (.tup (txs past))), some (.fz (waysD states moves)), some (.fz (.lst (txs l))), some (.fz (.str (T name))), none] = some (txs (l.map (go states moves name)), [some (.fz (webD states moves)), some (.fz (.tup (txs past))), some (.fz (waysD states moves)), some (.fz (.lst (txs l))), some (.fz (.str (T name))), none]) := by
          have := lcL_map (g := mGName 5) (vs := [5]) (mt := mYes) (me := led_by_ce1) (fun d => match d with | .str z => .str (T (go states moves name z.cps.toList)) | d => d) (ds := txs l) (ρ := [some (.fz (webD states moves)), some (.fz (.tup (txs past))), some (.fz (waysD states moves)), some (.fz (.lst (txs l))), some (.fz (.str (T name))), none]) fun d hd => by
            obtain ⟨s, hs, rfl⟩ := List.mem_map.mp hd
            refine ⟨[some (.fz (webD states moves)), some (.fz (.tup (txs past))), some (.fz (waysD states moves)), some (.fz (.lst (txs l))), some (.fz (.str (T name))), some (.fz (.str (T s)))], by simp, rfl, ?_, rfl, by simp⟩
            have g1 := go_at h hname (hsub s hs)
            have q3 : dIx (.dic (dT states (txs (imgs moves name)))) (.str (T s)) = some (.val (.str (T (go states moves name s)))) := dIx_dT (by
              have := lookup_map (fun l => D.str (T l)) (ks := states) (ds := imgs moves name) (k := s)
              rw [g1.1] at this
              exact this)
            unfold led_by_ce1
            simp [q2, q3]
          rw [this]
          unfold txs
          simp
        have c1 : l.length ≤ 1000000 := by have := h.small; omega
        simp [q1, lc, hcap, c1]
    · rw [txs_len, List.take_length] at hr
      exact ⟨o4, by rw [e, hr]⟩
  obtain ⟨o4, key⟩ := key
  unfold f_led_by fnP m_led_by
  simp [en0, ways_spec h, w0, key]
end
end LD

set_option Elab.async false
set_option linter.all false
set_option maxRecDepth 100000
set_option maxHeartbeats 4000000
namespace LD
open PySem L2 DL WA
section
variable {states : List (List Nat)} {moves : List MoveL} (h : W0 states moves)
include h
def walk (states : List (List Nat)) (moves : List MoveL) (past : List (List Nat)) (s : List Nat) : List Nat := past.foldl (fun s name => go states moves name s) s
theorem walk_mem {past : List (List Nat)} (hp : ∀ x ∈ past, x ∈ moves.map MoveL.name) {s : List Nat} (hs : s ∈ states) : walk states moves past s ∈ states := by
  unfold walk
  induction past generalizing s with
  | nil => exact hs
  | cons a past ih => exact ih (fun x hx => hp x (List.mem_cons_of_mem _ hx)) (go_at h (hp a List.mem_cons_self) hs).2
omit h in
theorem led_eq (past : List (List Nat)) : led states moves past = states.map (walk states moves past) := by
  unfold led walk
  suffices g : ∀ l : List (List Nat), past.foldl (fun l name => l.map (go states moves name)) l = l.map (fun s => past.foldl (fun s name => go states moves name s) s) from g states
  induction past with
  | nil => intro l; simp
  | cons a past ih => intro l; rw [List.foldl_cons, ih]; simp
end
/-! ### alike -/
def Small (l : List Nat) : Prop := ∀ c ∈ l, c < 1114112
theorem strOk_T {l : List Nat} (h : Small l) : PyData.strOk (T l) = true := by
  unfold PyData.strOk
  rw [Array.all_eq_true']
  intro c hc
  exact decide_eq_true (h c (by simpa using hc))
theorem ok_txs {n : Nat} {a : List (List Nat)} (h : ∀ x ∈ a, Small x) : (txs a).all (okD n) = true := by
  rw [List.all_eq_true]
  intro d hd
  obtain ⟨x, hx, rfl⟩ := List.mem_map.mp hd
  cases n <;> exact strOk_T (h x hx)
inductive Pl : Nat → D → Prop
  | str (n : Nat) (x : Str) : Pl (n + 1) (.str x)
  | int (n : Nat) (i : Int) : Pl (n + 1) (.int i)
  | tup {n : Nat} {ds : List D} : (∀ d ∈ ds, Pl n d) → ds.length ≤ 1000000 → Pl (n + 1) (.tup ds)
end LD

set_option Elab.async false
set_option linter.all false
set_option maxRecDepth 100000
set_option maxHeartbeats 4000000
namespace LD
open PySem L2 DL
noncomputable def _law_past_ce1 : ME := (fzO (mOp dIx (fzO (mOp dIx (fzO (mOp dIx (mVar 1) (mC (.int 1)))) (mCallB 0 WA.f__law_next (mCons (mVar 0) (mCons (mVar 4) mNil))))) (mC (.int 0))))
noncomputable def m__law_past : MS := (mSeq (mSetO 3 (mOp dIx (fzO (mLst (mCons (mCallB 0 WA.f__law_next (mCons (mVar 0) (mCons (fzO (mOp dAdd (mVar 2) (mC (.int 1)))) mNil))) (mCons (mCallB 0 WA.f__law_next (mCons (mVar 0) (mCons (mC (.int 4)) mNil))) (mCons (mVar 2) mNil))))) (mCallB 0 WA.f__law_next (mCons (mVar 0) (mCons (mC (.int 3)) mNil))))) (mSeq (mSetO 4 (mOp dIx (fzO (mLst (mCons (fzO (mCB (f1 dLen) (mCons (fzO (mOp dIx (mVar 1) (mC (.int 1)))) mNil))) (mCons (fzO (mCB (f2 dMin2) (mCons (mC (.int 2)) (mCons (fzO (mCB (f1 dLen) (mCons (fzO (mOp dIx (mVar 1) (mC (.int 1)))) mNil))) mNil)))) (mCons (mC (.int 1)) mNil))))) (mCallB 0 WA.f__law_next (mCons (mVar 0) (mCons (mC (.int 3)) mNil))))) (mRet (fzO (mCB (f1 dTuple) (mCons (fzO (mLc (mIA rng1 (mCons (mVar 3) mNil)) (mGName 5) [5] mYes _law_past_ce1)) mNil))))))
noncomputable def f__law_past : List D → Option (D × D) := fnB 6 0 m__law_past
open WA
noncomputable def pa0 : MS := (mSetO 3 (mOp dIx (fzO (mLst (mCons (mCallB 0 WA.f__law_next (mCons (mVar 0) (mCons (fzO (mOp dAdd (mVar 2) (mC (.int 1)))) mNil))) (mCons (mCallB 0 WA.f__law_next (mCons (mVar 0) (mCons (mC (.int 4)) mNil))) (mCons (mVar 2) mNil))))) (mCallB 0 WA.f__law_next (mCons (mVar 0) (mCons (mC (.int 3)) mNil)))))
noncomputable def pa1 : MS := (mSetO 4 (mOp dIx (fzO (mLst (mCons (fzO (mCB (f1 dLen) (mCons (fzO (mOp dIx (mVar 1) (mC (.int 1)))) mNil))) (mCons (fzO (mCB (f2 dMin2) (mCons (mC (.int 2)) (mCons (fzO (mCB (f1 dLen) (mCons (fzO (mOp dIx (mVar 1) (mC (.int 1)))) mNil))) mNil)))) (mCons (mC (.int 1)) mNil))))) (mCallB 0 WA.f__law_next (mCons (mVar 0) (mCons (mC (.int 3)) mNil)))))
noncomputable def pa2 : MS := (mRet (fzO (mCB (f1 dTuple) (mCons (fzO (mLc (mIA rng1 (mCons (mVar 3) mNil)) (mGName 5) [5] mYes _law_past_ce1)) mNil))))
theorem paeq : m__law_past = (mSeq pa0 (mSeq pa1 pa2)) := rfl
theorem past_spec {n : Nat} {d : D} {most : Int} {states : List (List Nat)} {moves : List MoveL} (hd : DeckOk n d) (hn : n ≤ 900000) (hm0 : 0 ≤ most) (hm1 : most ≤ 1000) (hl0 : 1 ≤ moves.length) (hl1 : moves.length ≤ 1000) :
    ∃ past d', f__law_past [d, webD states moves, .int most] = some (.tup (txs past), d') ∧ (past.length : Int) ≤ max most 3 ∧ (∀ x ∈ past, x ∈ moves.map MoveL.name) ∧ DeckOk (n + 5 + past.length) d' := by
  have hcap : cap = 1000000 := rfl
  obtain ⟨a, d1, e1, a0, a1, hd1⟩ := next_spec hd (by omega) (most + 1) (by omega) (by omega)
  obtain ⟨b, d2, e2, b0, b1, hd2⟩ := next_spec hd1 (by omega) 4 (by omega) (by omega)
  obtain ⟨c, d3, e3, c0, c1, hd3⟩ := next_spec hd2 (by omega) 3 (by omega) (by omega)
  have hw : ∃ w, atI [D.int a, D.int b, D.int most] c = some (.int w) ∧ 0 ≤ w ∧ w ≤ max most 3 := by
    rcases (show c = 0 ∨ c = 1 ∨ c = 2 by omega) with h | h | h <;> subst h
    · exact ⟨a, by simp, by omega, by omega⟩
    · exact ⟨b, by simp, by omega, by omega⟩
    · exact ⟨most, by simp, by omega, by omega⟩
  obtain ⟨many, ew, w1, w2⟩ := hw
  obtain ⟨f, d4, e4, f0, f1, hd4⟩ := next_spec hd3 (by omega) 3 (by omega) (by omega)
  have hf : ∃ w, atI [D.int moves.length, D.int (if (moves.length : Int) < 2 then moves.length else 2), D.int 1] f = some (.int w) ∧ 1 ≤ w ∧ w ≤ moves.length := by
    rcases (show f = 0 ∨ f = 1 ∨ f = 2 by omega) with h | h | h <;> subst h
    · exact ⟨moves.length, by simp, by omega, by omega⟩
    · refine ⟨if (moves.length : Int) < 2 then moves.length else 2, by simp, ?_, ?_⟩ <;> split <;> omega
    · exact ⟨1, by simp, by omega, by omega⟩
  obtain ⟨few, ef, g1, g2⟩ := hf
  have w1' : dIx (webD states moves) (.int 1) = some (.val (.tup (moves.map MoveL.D))) := by unfold webD; simp
  have key : ∃ (past : List (List Nat)) (d' : D), lcL (mGName 5) [5] mYes _law_past_ce1 (rngD 0 many.toNat) [some (.ow true d4), some (.fz (webD states moves)), some (.fz (.int most)), some (.fz (.int many)), some (.fz (.int few)), none] = some (txs past, [some (.ow true d'), some (.fz (webD states moves)), some (.fz (.int most)), some (.fz (.int many)), some (.fz (.int few)), none]) ∧ past.length = many.toNat ∧ (∀ x ∈ past, x ∈ moves.map MoveL.name) ∧ DeckOk (n + 4 + many.toNat) d' := by
    refine lcL_ex (g := mGName 5) (vs := [5]) (mt := mYes) (me := _law_past_ce1) (P := fun i acc ρ' => ∃ (past : List (List Nat)) (d' : D), acc = txs past ∧ ρ' = [some (.ow true d'), some (.fz (webD states moves)), some (.fz (.int most)), some (.fz (.int many)), some (.fz (.int few)), none] ∧ past.length = i ∧ (∀ x ∈ past, x ∈ moves.map MoveL.name) ∧ DeckOk (n + 4 + i) d') (ds := rngD 0 many.toNat) (ρ := [some (.ow true d4), some (.fz (webD states moves)), some (.fz (.int most)), some (.fz (.int many)), some (.fz (.int few)), none])
      ⟨[], d4, rfl, rfl, rfl, by simp, hd4⟩ (fun i x acc ρ' hx ⟨past, d5, ha, hr, hl, hp, hd5⟩ => ?_) (fun out ρ' e ⟨past, d5, ha, hr, hl, hp, hd5⟩ => ?_)
    rotate_left
    · rw [rngD_len] at hl hd5
      exact ⟨past, d5, by rw [e, ha, hr], hl, hp, hd5⟩
    · subst hr ha
      have hi : i < many.toNat := by have := (List.getElem?_eq_some_iff.mp hx).1; rwa [rngD_len] at this
      obtain ⟨r, d6, er, r0, r1, hd6⟩ := next_spec hd5 (by omega) few (by omega) (by omega)
      obtain ⟨m, hm1, hm2, hm3⟩ := atI_some (xs := moves) r0 (by omega)
      have hm4 : atI (moves.map MoveL.D) r = some m.D := by rw [atI_of r0 (by simp; omega)]; simp [hm3]
      have hm5 : dIx m.D (.int 0) = some (.val (.str (T m.name))) := by unfold MoveL.D; simp
      refine ⟨[some (.ow true d5), some (.fz (webD states moves)), some (.fz (.int most)), some (.fz (.int many)), some (.fz (.int few)), some (.fz x)], true, _, ?_, rfl, .inl ⟨rfl, .fz (.str (T m.name)), [some (.ow true d6), some (.fz (webD states moves)), some (.fz (.int most)), some (.fz (.int many)), some (.fz (.int few)), some (.fz x)], .str (T m.name), _, ?_, rfl, by simp, past ++ [m.name], d6, by simp [txs], rfl, by simp [hl], ?_, hd6⟩⟩
      · simp
      · unfold _law_past_ce1
        simp [er, w1', hm4, hm5]
      · intro y hy
        rcases List.mem_append.mp hy with h | h
        · exact hp y h
        · have : y = m.name := by simpa using h
          exact this ▸ List.mem_map.mpr ⟨m, hm2, rfl⟩
  obtain ⟨past, d5, e5, hl, hp, hd5⟩ := key
  refine ⟨past, d5, ?_, by omega, hp, hd5.mono (by omega)⟩
  have s0 : pa0 (en1 6 0 [d, webD states moves, .int most]) = some (.nx [some (.ow true d3), some (.fz (webD states moves)), some (.fz (.int most)), some (.fz (.int many)), none, none]) := by
    unfold pa0 en1 en0
    simp [e1, e2, e3, ew, hcap]
  have s1 : pa1 [some (.ow true d3), some (.fz (webD states moves)), some (.fz (.int most)), some (.fz (.int many)), none, none] = some (.nx [some (.ow true d4), some (.fz (webD states moves)), some (.fz (.int most)), some (.fz (.int many)), some (.fz (.int few)), none]) := by
    unfold pa1
    simp [w1', e4, ef, hcap]
  have s2 : pa2 [some (.ow true d4), some (.fz (webD states moves)), some (.fz (.int most)), some (.fz (.int many)), some (.fz (.int few)), none] = some (.rt (.tup (txs past)) [some (.ow true d5), some (.fz (webD states moves)), some (.fz (.int most)), some (.fz (.int many)), some (.fz (.int few)), none]) := by
    unfold pa2
    have b1 : -1000000 ≤ many ∧ many ≤ 1000000 := by omega
    have b2 : many.toNat ≤ 1000000 := by omega
    simp [b1, b2, rngD_len, e5, hcap, -Int.toNat_le]
  unfold f__law_past fnB
  rw [paeq, seq_of s0, seq_of s1, s2]
  simp [owAt]
end LD

set_option linter.all false
namespace LE
open PySem L2 DL
noncomputable def met_by_fb1 : MS := (mFg [2, 3] (mSeq (mSet 3 (mCall LD.f_led_by (mCons (mVar 0) (mCons (fzO (mSl (mVar 1) (mP (fzO (mOp dSub (fzO (mCB (f1 dLen) (mCons (mVar 1) mNil))) (mVar 2)))) mNoP)) mNil)))) (mIf (mTestO (mOp dEq (fzO (mLenSet (mVar 3))) (mC (.int 1)))) (mRet (fzO (mTup (mCons (fzO (mOp dIx (mVar 3) (mC (.int 0)))) (mCons (mVar 2) mNil))))) mNx)))
noncomputable def m_met_by : MS := (mSeq (mDrop (mCall LD.f_led_by (mCons (mVar 0) (mCons (mVar 1) mNil)))) (mSeq (mFor (mIFg [2, 3] (mIA rng1 (mCons (fzO (mOp dAdd (fzO (mCB (f1 dLen) (mCons (mVar 1) mNil))) (mC (.int 1)))) mNil))) (mGName 2) LE.met_by_fb1) (mRet (mC .non))))
noncomputable def f_met_by : List D → Option D := fnP 4 m_met_by
noncomputable def _law_met_ce1 : ME := (fzO (mTup (mCons (mVar 5) (mCons (mVar 5) mNil))))
noncomputable def _law_met_ce2 : ME := (fzO (mOp dIx (mVar 2) (mVar 5)))
noncomputable def _law_met_ce3 : ME := (fzO (mTup (mCons (mVar 5) (mCons (fzO (mOp dIx (mVar 2) (fzO (mOp dIx (mVar 4) (mVar 5))))) mNil))))
noncomputable def _law_met_wc1 : MT := (mTestO (mOp dGt (fzO (mLenSet (fzO (mLc (mIAny (fzO (mOp dIx (mVar 0) (mC (.int 0))))) (mGName 5) [5] mYes LE._law_met_ce2)))) (mC (.int 1))))
noncomputable def _law_met_wb1 : MS := (mFg [4] (mSeq (mIf (mTestO (mOp dEq (mVar 3) (fzO (mCB (f1 dLen) (mCons (mVar 1) mNil))))) (mRet (mC .non)) mNx) (mSeq (mSetO 3 (mOp dAdd (mVar 3) (mC (.int 1)))) (mSeq (mSet 4 (mCall LD.f__law_way (mCons (mVar 0) (mCons (fzO (mOp dIx (mVar 1) (fzO (mOp dSub (fzO (mCB (f1 dLen) (mCons (mVar 1) mNil))) (mVar 3))))) mNil)))) (mSetO 2 (mCB (f1 dDict) (mCons (fzO (mLc (mIAny (fzO (mOp dIx (mVar 0) (mC (.int 0))))) (mGName 5) [5] mYes LE._law_met_ce3)) mNil)))))))
noncomputable def m__law_met : MS := (mSeq (mSetO 2 (mCB (f1 dDict) (mCons (fzO (mLc (mIAny (fzO (mOp dIx (mVar 0) (mC (.int 0))))) (mGName 5) [5] mYes LE._law_met_ce1)) mNil))) (mSeq (mSet 3 (mC (.int 0))) (mSeq (mFg0 [4] (mWhile LE._law_met_wc1 LE._law_met_wb1)) (mRet (fzO (mTup (mCons (fzO (mOp dIx (mVar 2) (fzO (mOp dIx (fzO (mOp dIx (mVar 0) (mC (.int 0)))) (mC (.int 0)))))) (mCons (mVar 3) mNil))))))))
noncomputable def f__law_met : List D → Option D := fnP 6 m__law_met
end LE

set_option Elab.async false
set_option linter.all false
set_option maxRecDepth 100000
namespace KN
open PySem L2 DL
noncomputable def _law_number_fb1 : MS := (mFg [0, 2, 3, 7] (mSetO 6 (mOp dDiv (mVar 6) (mC (.int 1000000)))))
noncomputable def m__law_number : MS := (mSeq (mSetO 2 (mOp dAdd (fzO (mCB (f1 dList) (mCons (mVar 0) mNil))) (fzO (mLst (mCons (mC (.int 0)) mNil))))) (mSeq (mSetO 3 (mCB (f2 dMax2) (mCons (mC (.int 1)) (mCons (fzO (mCB (f1 dLen) (mCons (mVar 0) mNil))) mNil)))) (mSeq (mSetO 4 (mOp dIx (mVar 2) (fzO (mOp dMod (mVar 1) (mVar 3))))) (mSeq (mSetO 5 (mOp dDiv (mVar 1) (mVar 3))) (mSeq (mSet 6 (mVar 4)) (mSeq (mFor (mIFg [0, 2, 3, 7] (mIA rng1 (mCons (fzO (mCB (f2 dMin2) (mCons (mVar 5) (mCons (mC (.int 60)) mNil)))) mNil))) (mGName 7) _law_number_fb1) (mSeq (mIf (mAnd (mTestO (mOp dGe (mVar 4) (fzO (mOp dPow (mC (.int 10)) (mC (.int 18)))))) (mAnd (mTestO (mOp dLt (mVar 5) (mC (.int 60)))) (mTestO (mOp dGt (mVar 6) (mC (.int 0)))))) (mRet (fzO (mOp dMod (mVar 6) (mC (.int 1000000))))) mNx) (mSeq (mSetO 8 (mOp dMod (fzO (mOp dMulT (fzO (mOp dAdd (fzO (mOp dAdd (fzO (mOp dAdd (fzO (mOp dMod (mVar 4) (mC (.int 2147483629)))) (mC (.int 977)))) (fzO (mOp dMulT (mC (.int 104729)) (mVar 5))))) (fzO (mOp dMulT (mC (.int 15485863)) (mVar 1))))) (mC (.int 48271)))) (mC (.int 2147483647)))) (mSeq (mSetO 8 (mOp dMod (fzO (mOp dAdd (fzO (mOp dAdd (fzO (mOp dMulT (mVar 8) (mVar 8))) (fzO (mOp dMulT (mC (.int 7919)) (mVar 5))))) (fzO (mOp dMulT (mC (.int 31)) (mVar 1))))) (mC (.int 2147483587)))) (mRet (fzO (mOp dMod (fzO (mOp dDiv (fzO (mOp dMod (fzO (mOp dMulT (mVar 8) (mC (.int 69621)))) (mC (.int 2147483563)))) (mC (.int 64)))) (mC (.int 1000000))))))))))))))
noncomputable def f__law_number : List D → Option D := fnP 9 m__law_number
noncomputable def _law_names_ce1 : ME := (mMut 8 fPopAt (mCons (fzO (mOp dMod (mCall f__law_number (mCons (mVar 0) (mCons (fzO (mOp dAdd (fzO (mOp dAdd (mVar 1) (mC (.int 1)))) (mVar 9))) mNil))) (fzO (mCB (f1 dLen) (mCons (mVar 8) mNil))))) mNil))
noncomputable def _law_names_fb1 : MS := (mFg [2, 8, 9, 10] (mSeq (mSetO 10 (mOp dIx (mVar 4) (fzO (mOp dMod (mCall f__law_number (mCons (mVar 0) (mCons (fzO (mOp dAdd (fzO (mOp dAdd (mVar 1) (mC (.int 1)))) (fzO (mOp dMulT (mVar 9) (fzO (mOp dMod (fzO (mOp dDiv (mVar 5) (mC (.int 208)))) (mC (.int 2)))))))) mNil))) (mC (.int 8)))))) (mDrop (mMut 7 fAppend (mCons (fzO (mOp dAdd (fzO (mOp dAdd (fzO (mSl (mVar 10) mNoP (mP (mVar 6)))) (fzO (mOp dIx (mVar 3) (fzO (mOp dMod (fzO (mOp dAdd (mVar 5) (fzO (mOp dMulT (mC (.int 5)) (mVar 9))))) (mC (.int 26)))))))) (fzO (mSl (mVar 10) (mP (mVar 6)) mNoP)))) mNil)))))
noncomputable def m__law_names : MS := (mSeq (mSet 3 (mC (.str "abcdefghijklmnopqrstuvwxyz"))) (mSeq (mSetO 4 (mLst (mCons (mC (.str "")) (mCons (mC (.str "")) (mCons (mC (.str "one")) (mCons (mC (.str "zz")) (mCons (mC (.str "b")) (mCons (mC (.str "tie")) (mCons (mC (.str "place")) (mCons (mC (.str "lengthy")) mNil)))))))))) (mSeq (mSet 5 (mCall f__law_number (mCons (mVar 0) (mCons (mVar 1) mNil)))) (mSeq (mSetO 6 (mOp dMod (fzO (mOp dDiv (mVar 5) (mC (.int 26)))) (mC (.int 8)))) (mSeq (mSetO 7 (mLst mNil)) (mSeq (mSetO 8 (mLst (mCons (mC (.str "p")) (mCons (mC (.str "q")) (mCons (mC (.str "pp")) (mCons (mC (.str "pq")) (mCons (mC (.str "qp")) (mCons (mC (.str "qq")) (mCons (mC (.str "ppq")) (mCons (mC (.str "pqp")) (mCons (mC (.str "qpp")) (mCons (mC (.str "pqq")) (mCons (mC (.str "qpq")) (mCons (mC (.str "qqp")) (mCons (mC (.str "pqpqpqpq")) mNil))))))))))))))) (mSeq (mIf (mTestO (mOp dEq (fzO (mOp dMod (fzO (mOp dDiv (mVar 5) (mC (.int 416)))) (mC (.int 4)))) (mC (.int 3)))) (mRet (fzO (mCB (f1 dTuple) (mCons (fzO (mLc (mIA rng1 (mCons (mVar 2) mNil)) (mGName 9) [9] mYes _law_names_ce1)) mNil)))) mNx) (mSeq (mFor (mIFg [2, 8, 9, 10] (mIA rng1 (mCons (mVar 2) mNil))) (mGName 9) _law_names_fb1) (mRet (fzO (mCB (f1 dTuple) (mCons (mVar 7) mNil))))))))))))
noncomputable def f__law_names : List D → Option D := fnP 11 m__law_names
noncomputable def _law_web_ct1 : MT := (mTestO (mOp dNotIn (mVar 10) (fzO (mSl (mVar 7) mNoP (mP (mVar 9))))))
noncomputable def _law_web_ce1 : ME := (mVar 10)
noncomputable def _law_web_fb1 : MS := (mFg [2, 3, 4, 7, 15, 16, 17, 18, 19] (mSeq (mSet 16 (mCall f__law_number (mCons (mVar 0) (mCons (fzO (mOp dAdd (fzO (mOp dAdd (fzO (mOp dAdd (mVar 1) (mC (.int 35)))) (fzO (mOp dMulT (mC (.int 8)) (mVar 9))))) (mVar 15))) mNil)))) (mSeq (mSetO 17 (mOp dMod (mVar 16) (mVar 5))) (mSeq (mSetO 18 (mOp dMod (fzO (mOp dAdd (mVar 15) (fzO (mOp dDiv (mVar 11) (mC (.int 7)))))) (mVar 5))) (mSeq (mSetO 19 (mOp dIx (fzO (mLst (mCons (mVar 17) (mCons (fzO (mOp dMod (mVar 16) (fzO (mCB (f2 dMin2) (mCons (mC (.int 2)) (mCons (mVar 5) mNil)))))) (mCons (mVar 18) (mCons (mVar 15) (mCons (fzO (mCB (f2 dMax2) (mCons (mC (.int 0)) (mCons (fzO (mOp dSub (mVar 15) (mC (.int 1)))) mNil)))) (mCons (mVar 17) mNil)))))))) (mVar 12))) (mSeq (mIf (mAnd (mTestO (mOp dEq (mVar 12) (mC (.int 3)))) (mTestO (mOp dEq (mVar 15) (fzO (mOp dMod (fzO (mOp dDiv (mVar 11) (mC (.int 6)))) (mVar 5)))))) (mSetO 19 (mOp dMod (mVar 16) (mVar 5))) mNx) (mDrop (mMut 14 fAppend (mCons (fzO (mOp dIx (mVar 6) (mVar 19))) mNil)))))))))
noncomputable def _law_web_fb2 : MS := (mFg [2, 3, 4, 7, 9, 10, 11, 12, 13, 14, 15, 16, 17, 18, 19] (mSeq (mSet 11 (mCall f__law_number (mCons (mVar 0) (mCons (fzO (mOp dAdd (fzO (mOp dAdd (mVar 1) (mC (.int 25)))) (mVar 9))) mNil)))) (mSeq (mSetO 12 (mOp dMod (mVar 11) (mC (.int 6)))) (mSeq (mSetO 13 (mOp dIx (fzO (mLst (mCons (mC (.int 1)) (mCons (fzO (mOp dAdd (mC (.int 1)) (fzO (mOp dMod (fzO (mOp dDiv (mVar 11) (mC (.int 6)))) (mC (.int 5)))))) (mCons (fzO (mOp dAdd (mC (.int 1)) (fzO (mOp dMod (fzO (mOp dDiv (mVar 11) (mC (.int 6)))) (mC (.int 99)))))) mNil))))) (fzO (mOp dMod (fzO (mOp dDiv (mVar 11) (mC (.int 600)))) (mC (.int 3)))))) (mSeq (mSetO 14 (mLst mNil)) (mSeq (mFor (mIFg [2, 3, 4, 7, 15, 16, 17, 18, 19] (mIA rng1 (mCons (mVar 5) mNil))) (mGName 15) _law_web_fb1) (mDrop (mMut 8 fAppend (mCons (fzO (mTup (mCons (mVar 10) (mCons (mVar 13) (mCons (fzO (mCB (f1 dTuple) (mCons (mVar 14) mNil))) mNil))))) mNil)))))))))
noncomputable def m__law_web : MS := (mSeq (mSet 4 (mCall f__law_number (mCons (mVar 0) (mCons (mVar 1) mNil)))) (mSeq (mSetO 5 (mOp dAdd (mC (.int 1)) (fzO (mOp dMod (mVar 4) (mVar 2))))) (mSeq (mSet 6 (mCall f__law_names (mCons (mVar 0) (mCons (fzO (mOp dAdd (mVar 1) (mC (.int 1)))) (mCons (mVar 5) mNil))))) (mSeq (mSet 7 (mCall f__law_names (mCons (mVar 0) (mCons (fzO (mOp dAdd (mVar 1) (mC (.int 12)))) (mCons (fzO (mOp dAdd (mC (.int 1)) (fzO (mOp dMod (fzO (mOp dDiv (mVar 4) (mC (.int 8)))) (mVar 3))))) mNil))))) (mSeq (mIf (mTestO (mOp dEq (fzO (mOp dMod (fzO (mOp dDiv (mVar 4) (mC (.int 64)))) (mC (.int 4)))) (mC (.int 1)))) (mSeq (mSetO 7 (mSl (fzO (mOp dAdd (mVar 6) (mVar 7))) mNoP (mP (fzO (mCB (f1 dLen) (mCons (mVar 7) mNil)))))) (mSetO 7 (mCB (f1 dTuple) (mCons (fzO (mLc (mIF enumI (mCons (mVar 7) mNil)) (mGTup 2 (mGCons (mGName 9) (mGCons (mGName 10) mGNil))) [9, 10] _law_web_ct1 _law_web_ce1)) mNil)))) mNx) (mSeq (mSetO 8 (mLst mNil)) (mSeq (mFor (mIFg [2, 3, 4, 7, 9, 10, 11, 12, 13, 14, 15, 16, 17, 18, 19] (mIF enumI (mCons (mVar 7) mNil))) (mGTup 2 (mGCons (mGName 9) (mGCons (mGName 10) mGNil))) _law_web_fb2) (mRet (fzO (mTup (mCons (mVar 6) (mCons (fzO (mCB (f1 dTuple) (mCons (mVar 8) mNil))) mNil))))))))))))
noncomputable def f__law_web : List D → Option D := fnP 20 m__law_web
noncomputable def m_kd_init : MS := (mSeq (mFldSt 0 "web" (mVar 1)) (mFldSt 0 "past" (fzO (mTup mNil))))
noncomputable def f_kd_init : List D → Option (D × D) := fnB 2 0 m_kd_init
noncomputable def m_kd_put_back : MS := (mSeq (mDrop (mCall LD.f_led_by (mCons (mFldI 0 "web") (mCons (fzO (mTup (mCons (mVar 1) mNil))) mNil)))) (mFldSt 0 "past" (fzO (mOp dAdd (fzO (mTup (mCons (mVar 1) mNil))) (mFldI 0 "past")))))
noncomputable def f_kd_put_back : List D → Option (D × D) := fnB 2 0 m_kd_put_back
noncomputable def m_kd_put_now : MS := (mSeq (mDrop (mCall LD.f_led_by (mCons (mFldI 0 "web") (mCons (fzO (mTup (mCons (mVar 1) mNil))) mNil)))) (mFldSt 0 "past" (fzO (mOp dAdd (mFldI 0 "past") (fzO (mTup (mCons (mVar 1) mNil)))))))
noncomputable def f_kd_put_now : List D → Option (D × D) := fnB 2 0 m_kd_put_now
noncomputable def m_kd_past_now : MS := (mRet (mFldI 0 "past"))
noncomputable def f_kd_past_now : List D → Option (D × D) := fnB 1 0 m_kd_past_now
noncomputable def m_kd_leads_now : MS := (mRet (mCall LD.f_led_by (mCons (mFldI 0 "web") (mCons (mFldI 0 "past") mNil))))
noncomputable def f_kd_leads_now : List D → Option (D × D) := fnB 1 0 m_kd_leads_now
noncomputable def m_kd_met_now : MS := (mRet (mCall LE.f_met_by (mCons (mFldI 0 "web") (mCons (mFldI 0 "past") mNil))))
noncomputable def f_kd_met_now : List D → Option (D × D) := fnB 1 0 m_kd_met_now
end KN

set_option Elab.async false
set_option linter.all false
set_option maxRecDepth 100000
namespace KW
open PySem L2 DL
noncomputable def _law_ways_ce1 : ME := (fzO (mTup (mCons (mVar 1) (mCons (fzO (mDictZip (mCons (fzO (mOp dIx (mVar 0) (mC (.int 0)))) (mCons (mVar 3) mNil)))) mNil))))
noncomputable def m__law_ways : MS := (mRet (fzO (mCB (f1 dDict) (mCons (fzO (mLc (mIAny (fzO (mOp dIx (mVar 0) (mC (.int 1))))) (mGTup 3 (mGCons (mGName 1) (mGCons (mGName 2) (mGCons (mGName 3) mGNil)))) [1, 2, 3] mYes _law_ways_ce1)) mNil))))
noncomputable def f__law_ways : List D → Option D := fnP 4 m__law_ways
noncomputable def _law_led_ce1 : ME := (fzO (mOp dIx (fzO (mOp dIx (mVar 2) (mVar 4))) (mVar 5)))
noncomputable def _law_led_fb1 : MS := (mFg [0, 1, 4] (mSetO 3 (mLc (mIAny (mVar 3)) (mGName 5) [5] mYes _law_led_ce1)))
noncomputable def m__law_led : MS := (mSeq (mSet 2 (mCall f__law_ways (mCons (mVar 0) mNil))) (mSeq (mSetO 3 (mCB (f1 dList) (mCons (fzO (mOp dIx (mVar 0) (mC (.int 0)))) mNil))) (mSeq (mFor (mIFg [0, 1, 4] (mIAny (mVar 1))) (mGName 4) _law_led_fb1) (mRet (fzO (mCB (f1 dTuple) (mCons (mVar 3) mNil)))))))
noncomputable def f__law_led : List D → Option D := fnP 6 m__law_led
noncomputable def _law_met_ce1 : ME := (fzO (mTup (mCons (mVar 6) (mCons (mVar 6) mNil))))
noncomputable def _law_met_ce2 : ME := (fzO (mTup (mCons (mVar 6) (mCons (fzO (mOp dIx (mVar 3) (fzO (mOp dIx (fzO (mOp dIx (mVar 2) (mVar 5))) (mVar 6))))) mNil))))
noncomputable def _law_met_ce3 : ME := (fzO (mOp dIx (mVar 3) (mVar 6)))
noncomputable def _law_met_fb1 : MS := (mFg [1, 5] (mSeq (mIf (mTestO (mOp dNe (mVar 5) (mC (.str "")))) (mSeq (mSetO 3 (mCB (f1 dDict) (mCons (fzO (mLc (mIAny (fzO (mOp dIx (mVar 0) (mC (.int 0))))) (mGName 6) [6] mYes _law_met_ce2)) mNil))) (mSetO 4 (mOp dAdd (mVar 4) (mC (.int 1))))) mNx) (mIf (mTestO (mOp dEq (fzO (mLenSet (fzO (mLc (mIAny (fzO (mOp dIx (mVar 0) (mC (.int 0))))) (mGName 6) [6] mYes _law_met_ce3)))) (mC (.int 1)))) (mRet (fzO (mTup (mCons (fzO (mOp dIx (mVar 3) (fzO (mOp dIx (fzO (mOp dIx (mVar 0) (mC (.int 0)))) (mC (.int 0)))))) (mCons (mVar 4) mNil))))) mNx)))
noncomputable def m__law_met : MS := (mSeq (mSet 2 (mCall f__law_ways (mCons (mVar 0) mNil))) (mSeq (mSetO 3 (mCB (f1 dDict) (mCons (fzO (mLc (mIAny (fzO (mOp dIx (mVar 0) (mC (.int 0))))) (mGName 6) [6] mYes _law_met_ce1)) mNil))) (mSeq (mSet 4 (mC (.int 0))) (mSeq (mFor (mIFg [1, 5] (mIAny (fzO (mOp dAdd (fzO (mLst (mCons (mC (.str "")) mNil))) (fzO (mUn dRevT (fzO (mCB (f1 dList) (mCons (mVar 1) mNil))))))))) (mGName 5) _law_met_fb1) (mRet (mC .non))))))
noncomputable def f__law_met : List D → Option D := fnP 7 m__law_met
end KW

set_option Elab.async false
set_option linter.all false
set_option maxRecDepth 100000
set_option maxHeartbeats 4000000
namespace K61
open PySem PySem.Spec PyProof.Rows L2 DL
def topS (i : Nat) : Stmt := PySem.Challenge.pw_walksago_k61_kept_draws.main.body.getD i (.Pass ⟨0, 0, 0, 0⟩)
abbrev s_ways_of : Stmt := topS 4
abbrev N_ways_of : List Str := ["web", "found", "name", "weight", "images"]
theorem sc_ways_of : FnScope N_ways_of ["web"] (defScope s_ways_of) := ⟨rfl, rfl, rfl, by decide +kernel, rfl, by decide +kernel, by decide +kernel⟩
abbrev s_kd_init : Stmt := inClass (topS 8) 0
abbrev N_kd_init : List Str := ["self", "web"]
theorem sc_kd_init : FnScope N_kd_init ["self", "web"] (defScope s_kd_init) := ⟨rfl, rfl, rfl, by decide +kernel, rfl, by decide +kernel, by decide +kernel⟩
abbrev s_kd_past_now : Stmt := inClass (topS 8) 3
abbrev N_kd_past_now : List Str := ["self"]
theorem sc_kd_past_now : FnScope N_kd_past_now ["self"] (defScope s_kd_past_now) := ⟨rfl, rfl, rfl, by decide +kernel, rfl, by decide +kernel, by decide +kernel⟩
abbrev s__law_number : Stmt := topS 10
abbrev N__law_number : List Str := ["script", "k", "cells", "size", "cell", "turn", "rest", "step", "seed"]
theorem sc__law_number : FnScope N__law_number ["script", "k"] (defScope s__law_number) := ⟨rfl, rfl, rfl, by decide +kernel, rfl, by decide +kernel, by decide +kernel⟩
abbrev s__law_ways : Stmt := topS 13
abbrev N__law_ways : List Str := ["web", "name", "weight", "images"]
theorem sc__law_ways : FnScope N__law_ways ["web"] (defScope s__law_ways) := ⟨rfl, rfl, rfl, by decide +kernel, rfl, by decide +kernel, by decide +kernel⟩
abbrev s_led_by : Stmt := topS 5
abbrev N_led_by : List Str := ["web", "past", "ways", "led", "name", "state"]
theorem sc_led_by : FnScope N_led_by ["web", "past"] (defScope s_led_by) := ⟨rfl, rfl, rfl, by decide +kernel, rfl, by decide +kernel, by decide +kernel⟩
abbrev s__law_names : Stmt := topS 11
abbrev N__law_names : List Str := ["script", "start", "many", "letters", "some", "first", "at", "found", "menu", "k", "name"]
theorem sc__law_names : FnScope N__law_names ["script", "start", "many"] (defScope s__law_names) := ⟨rfl, rfl, rfl, by decide +kernel, rfl, by decide +kernel, by decide +kernel⟩
abbrev s__law_led : Stmt := topS 14
abbrev N__law_led : List Str := ["web", "past", "ways", "led", "name", "state"]
theorem sc__law_led : FnScope N__law_led ["web", "past"] (defScope s__law_led) := ⟨rfl, rfl, rfl, by decide +kernel, rfl, by decide +kernel, by decide +kernel⟩
abbrev s__law_met : Stmt := topS 15
abbrev N__law_met : List Str := ["web", "past", "ways", "led", "many", "name", "state"]
theorem sc__law_met : FnScope N__law_met ["web", "past"] (defScope s__law_met) := ⟨rfl, rfl, rfl, by decide +kernel, rfl, by decide +kernel, by decide +kernel⟩
abbrev s_met_by : Stmt := topS 6
abbrev N_met_by : List Str := ["web", "past", "many", "led"]
theorem sc_met_by : FnScope N_met_by ["web", "past"] (defScope s_met_by) := ⟨rfl, rfl, rfl, by decide +kernel, rfl, by decide +kernel, by decide +kernel⟩
abbrev s_kd_put_back : Stmt := inClass (topS 8) 1
abbrev N_kd_put_back : List Str := ["self", "name"]
theorem sc_kd_put_back : FnScope N_kd_put_back ["self", "name"] (defScope s_kd_put_back) := ⟨rfl, rfl, rfl, by decide +kernel, rfl, by decide +kernel, by decide +kernel⟩
abbrev s_kd_put_now : Stmt := inClass (topS 8) 2
abbrev N_kd_put_now : List Str := ["self", "name"]
theorem sc_kd_put_now : FnScope N_kd_put_now ["self", "name"] (defScope s_kd_put_now) := ⟨rfl, rfl, rfl, by decide +kernel, rfl, by decide +kernel, by decide +kernel⟩
abbrev s_kd_leads_now : Stmt := inClass (topS 8) 4
abbrev N_kd_leads_now : List Str := ["self"]
theorem sc_kd_leads_now : FnScope N_kd_leads_now ["self"] (defScope s_kd_leads_now) := ⟨rfl, rfl, rfl, by decide +kernel, rfl, by decide +kernel, by decide +kernel⟩
abbrev s__law_web : Stmt := topS 12
abbrev N__law_web : List Str := ["script", "start", "most", "moves", "head", "many", "states", "names", "found", "k", "name", "number", "kind", "weight", "images", "j", "draw", "any_one", "turned", "to"]
theorem sc__law_web : FnScope N__law_web ["script", "start", "most", "moves"] (defScope s__law_web) := ⟨rfl, rfl, rfl, by decide +kernel, rfl, by decide +kernel, by decide +kernel⟩
abbrev s_kd_met_now : Stmt := inClass (topS 8) 5
abbrev N_kd_met_now : List Str := ["self"]
theorem sc_kd_met_now : FnScope N_kd_met_now ["self"] (defScope s_kd_met_now) := ⟨rfl, rfl, rfl, by decide +kernel, rfl, by decide +kernel, by decide +kernel⟩
abbrev s__law_as_due : Stmt := topS 16
abbrev N__law_as_due : List Str := ["kept", "web", "past", "told"]
theorem sc__law_as_due : FnScope N__law_as_due ["kept", "web", "past"] (defScope s__law_as_due) := ⟨rfl, rfl, rfl, by decide +kernel, rfl, by decide +kernel, by decide +kernel⟩
abbrev s_law : Stmt := topS 17
abbrev N_law : List Str := ["script", "webs", "kept", "pasts", "head", "turn", "number", "at", "moves", "name", "k", "web", "told"]
theorem sc_law : FnScope N_law ["script"] (defScope s_law) := ⟨rfl, rfl, rfl, by decide +kernel, rfl, by decide +kernel, by decide +kernel⟩
/-! ### what the defs do -/
noncomputable def m__law_as_due : MS := (mSeq (mSetO 3 (mLst (mCons (mMeth 0 KN.f_kd_past_now mNil) (mCons (mMeth 0 KN.f_kd_leads_now mNil) (mCons (mMeth 0 KN.f_kd_met_now mNil) mNil))))) (mSeq (mIf (mTestO (mOp dNe (mVar 3) (fzO (mLst (mCons (mVar 2) (mCons (mCall KW.f__law_led (mCons (mVar 1) (mCons (mVar 2) mNil))) (mCons (mCall KW.f__law_met (mCons (mVar 1) (mCons (mVar 2) mNil))) mNil))))))) (mRet (mC (.bl false))) mNx) (mSeq (mIf (mOr (mNot (mBool (fzO (mIsi .tuple (fzO (mOp dIx (mVar 3) (mC (.int 0)))))))) (mNot (mBool (fzO (mIsi .tuple (fzO (mOp dIx (mVar 3) (mC (.int 1))))))))) (mRet (mC (.bl false))) mNx) (mRet (mOrE (fzO (mOp dIs (fzO (mOp dIx (mVar 3) (mC (.int 2)))) (mC .non))) (mAndE (fzO (mIsi .tuple (fzO (mOp dIx (mVar 3) (mC (.int 2)))))) (mNotE (fzO (mIsi .bool (fzO (mOp dIx (fzO (mOp dIx (mVar 3) (mC (.int 2)))) (mC (.int 1)))))))))))))
noncomputable def f__law_as_due : List D → Option (D × D) := fnB 4 0 m__law_as_due
noncomputable def law_ce1 : ME := (mCall KN.f__law_web (mCons (mVar 0) (mCons (fzO (mOp dMulT (mC (.int 110)) (mVar 10))) (mCons (mC (.int 8)) (mCons (mC (.int 8)) mNil)))))
noncomputable def law_fb1 : MS := (mFg [4, 5, 6, 7, 8, 9, 12] (mSeq (mSet 6 (mCall KN.f__law_number (mCons (mVar 0) (mCons (fzO (mOp dAdd (mC (.int 221)) (mVar 5))) mNil)))) (mSeq (mSetO 7 (mCB (f1 dInt) (mCons (fzO (mOp dEq (fzO (mOp dMod (mVar 6) (mC (.int 4)))) (mC (.int 3)))) mNil))) (mSeq (mSetO 8 (mOp dIx (fzO (mOp dIx (mVar 1) (mVar 7))) (mC (.int 1)))) (mSeq (mSetO 9 (mOp dIx (fzO (mOp dIx (mVar 8) (fzO (mOp dMod (fzO (mOp dDiv (mVar 6) (mC (.int 8)))) (fzO (mCB (f1 dLen) (mCons (mVar 8) mNil))))))) (mC (.int 0)))) (mSeq (mIf (mTestO (mOp dEq (fzO (mOp dMod (fzO (mOp dDiv (mVar 6) (mC (.int 4)))) (mC (.int 2)))) (mC (.int 0)))) (mSeq (mSet 12 (mMethN 2 (mVar 7) KN.f_kd_put_back (mCons (mVar 9) mNil))) (mStore 3 (fzO (mOp dAdd (fzO (mTup (mCons (mVar 9) mNil))) (fzO (mOp dIx (mVar 3) (mVar 7))))) (mVar 7))) (mSeq (mSet 12 (mMethN 2 (mVar 7) KN.f_kd_put_now (mCons (mVar 9) mNil))) (mStore 3 (fzO (mOp dAdd (fzO (mOp dIx (mVar 3) (mVar 7))) (fzO (mTup (mCons (mVar 9) mNil))))) (mVar 7)))) (mSeq (mIf (mOr (mTestO (mOp dIsNot (mVar 12) (mC .non))) (mNot (mBool (mCallBN 2 (mVar 7) f__law_as_due (mCons (fzO (mOp dIx (mVar 1) (mVar 7))) (mCons (fzO (mOp dIx (mVar 3) (mVar 7))) mNil)))))) (mRet (mC (.bl false))) mNx) (mIf (mAnd (mTestO (mOp dEq (fzO (mOp dMod (mVar 5) (mC (.int 7)))) (mC (.int 0)))) (mNot (mBool (mCallBN 2 (fzO (mOp dSub (mC (.int 1)) (mVar 7))) f__law_as_due (mCons (fzO (mOp dIx (mVar 1) (fzO (mOp dSub (mC (.int 1)) (mVar 7))))) (mCons (fzO (mOp dIx (mVar 3) (fzO (mOp dSub (mC (.int 1)) (mVar 7))))) mNil)))))) (mRet (mC (.bl false))) mNx))))))))
noncomputable def m_law : MS := (mSeq (mSetO 1 (mLc (mIA rng1 (mCons (mC (.int 2)) mNil)) (mGName 10) [10] mYes law_ce1)) (mSeq (mSetLcI 2 (mIAny (mVar 1)) (mGName 11) [11] mYes KN.f_kd_init (mCons (mVar 11) mNil)) (mSeq (mSetO 3 (mLst (mCons (fzO (mTup mNil)) (mCons (fzO (mTup mNil)) mNil)))) (mSeq (mIf (mOr (mNot (mBool (mCallBN 2 (mC (.int 0)) f__law_as_due (mCons (fzO (mOp dIx (mVar 1) (mC (.int 0)))) (mCons (fzO (mTup mNil)) mNil))))) (mNot (mBool (mCallBN 2 (mC (.int 1)) f__law_as_due (mCons (fzO (mOp dIx (mVar 1) (mC (.int 1)))) (mCons (fzO (mTup mNil)) mNil)))))) (mRet (mC (.bl false))) mNx) (mSeq (mSet 4 (mCall KN.f__law_number (mCons (mVar 0) (mCons (mC (.int 220)) mNil)))) (mSeq (mFor (mIFg [4, 5, 6, 7, 8, 9, 12] (mIA rng1 (mCons (fzO (mOp dIx (fzO (mLst (mCons (fzO (mOp dMod (fzO (mOp dDiv (mVar 4) (mC (.int 8)))) (mC (.int 31)))) (mCons (mC (.int 60)) mNil)))) (fzO (mCB (f1 dInt) (mCons (fzO (mOp dEq (fzO (mOp dMod (mVar 4) (mC (.int 8)))) (mC (.int 0)))) mNil))))) mNil))) (mGName 5) law_fb1) (mRet (mC (.bl true)))))))))
noncomputable def f_law : List D → Option D := fnP 13 m_law
/-! ### the top -/
structure Tx (K : PySem.W.Frag) (mg : Str → Option Value) where
  a_ways_of : Addr
  fd_ways_of : FuncData
  F_ways_of : Fun K "ways_of" "ways_of" s_ways_of a_ways_of fd_ways_of
  g_ways_of : mg "ways_of" = some (.ref a_ways_of)
  b_ways_of : Binds K fd_ways_of ["web"] []
  a_kd_init : Addr
  fd_kd_init : FuncData
  F_kd_init : Fun K "__init__" "KeptDraw.__init__" s_kd_init a_kd_init fd_kd_init
  b_kd_init : Binds K fd_kd_init ["self", "web"] []
  a_kd_past_now : Addr
  fd_kd_past_now : FuncData
  F_kd_past_now : Fun K "past_now" "KeptDraw.past_now" s_kd_past_now a_kd_past_now fd_kd_past_now
  b_kd_past_now : Binds K fd_kd_past_now ["self"] []
  a__law_number : Addr
  fd__law_number : FuncData
  F__law_number : Fun K "_law_number" "_law_number" s__law_number a__law_number fd__law_number
  g__law_number : mg "_law_number" = some (.ref a__law_number)
  b__law_number : Binds K fd__law_number ["script", "k"] []
  a__law_ways : Addr
  fd__law_ways : FuncData
  F__law_ways : Fun K "_law_ways" "_law_ways" s__law_ways a__law_ways fd__law_ways
  g__law_ways : mg "_law_ways" = some (.ref a__law_ways)
  b__law_ways : Binds K fd__law_ways ["web"] []
  a_led_by : Addr
  fd_led_by : FuncData
  F_led_by : Fun K "led_by" "led_by" s_led_by a_led_by fd_led_by
  g_led_by : mg "led_by" = some (.ref a_led_by)
  b_led_by : Binds K fd_led_by ["web", "past"] []
  a__law_names : Addr
  fd__law_names : FuncData
  F__law_names : Fun K "_law_names" "_law_names" s__law_names a__law_names fd__law_names
  g__law_names : mg "_law_names" = some (.ref a__law_names)
  b__law_names : Binds K fd__law_names ["script", "start", "many"] []
  a__law_led : Addr
  fd__law_led : FuncData
  F__law_led : Fun K "_law_led" "_law_led" s__law_led a__law_led fd__law_led
  g__law_led : mg "_law_led" = some (.ref a__law_led)
  b__law_led : Binds K fd__law_led ["web", "past"] []
  a__law_met : Addr
  fd__law_met : FuncData
  F__law_met : Fun K "_law_met" "_law_met" s__law_met a__law_met fd__law_met
  g__law_met : mg "_law_met" = some (.ref a__law_met)
  b__law_met : Binds K fd__law_met ["web", "past"] []
  a_met_by : Addr
  fd_met_by : FuncData
  F_met_by : Fun K "met_by" "met_by" s_met_by a_met_by fd_met_by
  g_met_by : mg "met_by" = some (.ref a_met_by)
  b_met_by : Binds K fd_met_by ["web", "past"] []
  a_kd_put_back : Addr
  fd_kd_put_back : FuncData
  F_kd_put_back : Fun K "put_back" "KeptDraw.put_back" s_kd_put_back a_kd_put_back fd_kd_put_back
  b_kd_put_back : Binds K fd_kd_put_back ["self", "name"] []
  a_kd_put_now : Addr
  fd_kd_put_now : FuncData
  F_kd_put_now : Fun K "put_now" "KeptDraw.put_now" s_kd_put_now a_kd_put_now fd_kd_put_now
  b_kd_put_now : Binds K fd_kd_put_now ["self", "name"] []
  a_kd_leads_now : Addr
  fd_kd_leads_now : FuncData
  F_kd_leads_now : Fun K "leads_now" "KeptDraw.leads_now" s_kd_leads_now a_kd_leads_now fd_kd_leads_now
  b_kd_leads_now : Binds K fd_kd_leads_now ["self"] []
  a__law_web : Addr
  fd__law_web : FuncData
  F__law_web : Fun K "_law_web" "_law_web" s__law_web a__law_web fd__law_web
  g__law_web : mg "_law_web" = some (.ref a__law_web)
  b__law_web : Binds K fd__law_web ["script", "start", "most", "moves"] []
  a_kd_met_now : Addr
  fd_kd_met_now : FuncData
  F_kd_met_now : Fun K "met_now" "KeptDraw.met_now" s_kd_met_now a_kd_met_now fd_kd_met_now
  b_kd_met_now : Binds K fd_kd_met_now ["self"] []
  a__law_as_due : Addr
  fd__law_as_due : FuncData
  F__law_as_due : Fun K "_law_as_due" "_law_as_due" s__law_as_due a__law_as_due fd__law_as_due
  g__law_as_due : mg "_law_as_due" = some (.ref a__law_as_due)
  b__law_as_due : Binds K fd__law_as_due ["kept", "web", "past"] []
  a_law : Addr
  fd_law : FuncData
  F_law : Fun K "law" "law" s_law a_law fd_law
  g_law : mg "law" = some (.ref a_law)
  b_law : Binds K fd_law ["script"] []
  C_kd : Addr
  IA_kd : InsA K 0 C_kd
  G_kd : mg "KeptDraw" = some (.ref C_kd)
  cl_kd : Cls K C_kd
  no_web : NoAttr K C_kd "web"
  no_past : NoAttr K C_kd "past"
  mk_kd : Mk K C_kd a_kd_init
  mt_kd_past_now : Meth K C_kd "past_now" a_kd_past_now
  mt_kd_put_back : Meth K C_kd "put_back" a_kd_put_back
  mt_kd_put_now : Meth K C_kd "put_now" a_kd_put_now
  mt_kd_leads_now : Meth K C_kd "leads_now" a_kd_leads_now
  mt_kd_met_now : Meth K C_kd "met_now" a_kd_met_now
  z_bool : mg "bool" = none
  z_dict : mg "dict" = none
  z_enumerate : mg "enumerate" = none
  z_int : mg "int" = none
  z_isinstance : mg "isinstance" = none
  z_len : mg "len" = none
  z_list : mg "list" = none
  z_max : mg "max" = none
  z_min : mg "min" = none
  z_range : mg "range" = none
  z_set : mg "set" = none
  z_tuple : mg "tuple" = none
  z_zip : mg "zip" = none

end K61

set_option Elab.async false
set_option linter.all false
set_option maxRecDepth 100000
namespace K61
open PySem PySem.Spec PyProof.Rows L2 DL
section
variable {P : Program} {w : World} {K : PySem.W.Frag} {mg : Str → Option Value} {base : Heap}
set_option maxHeartbeats 4000000 in
theorem ok_ways_of (T : Tx K mg) : FnOk P w K mg base CX0 1 T.a_ways_of T.fd_ways_of ["web"] (spP K 1 LD.f_ways_of) :=
  fn_ok N_ways_of ["web"] 5 1 LD.m_ways_of T.F_ways_of sc_ways_of rfl rfl rfl fun cdv A outer s H E hr => by
    unfold LD.m_ways_of LD.ways_of_fb1
    exact (dss_cons (ds_setO (i := 1) sc_ways_of.nd rfl (by first | exact Or.inl rfl | exact Or.inr rfl) do_dicK)
      (dss_cons (ds_for (ws := [2, 3, 4]) PassesOwn.never rfl (di_any (DO.fz (do_ix (u1 hr) (de_var 0) de_int))) (dg_tup rfl (dgs_cons (dg_name (i := 2) sc_ways_of.nd rfl (by first | exact Or.inl rfl | exact Or.inr rfl)) (dgs_cons (dg_name (i := 3) sc_ways_of.nd rfl (by first | exact Or.inl rfl | exact Or.inr rfl)) (dgs_cons (dg_name (i := 4) sc_ways_of.nd rfl (by first | exact Or.inl rfl | exact Or.inr rfl)) dgs_nil)))) (dss_one (ds_store 1 (u1 hr) (DO.fz (do_dictZip rfl rfl T.z_dict rfl T.z_zip (DAn.da (an_cons (DO.fz (do_ix (u1 hr) (de_var 0) de_int)) (an_cons (de_var 4) an_nil))))) (de_var 2))))
      (dss_one (ds_ret (de_var 1)))))
end
end K61

set_option Elab.async false
set_option linter.all false
set_option maxRecDepth 100000
namespace K61
open PySem PySem.Spec PyProof.Rows L2 DL
section
variable {P : Program} {w : World} {K : PySem.W.Frag} {mg : Str → Option Value} {base : Heap}
set_option maxHeartbeats 4000000 in
theorem ok_kd_init (T : Tx K mg) : FnOk P w K mg base CX0 1 T.a_kd_init T.fd_kd_init ["self", "web"] (spB K 2 0 KN.f_kd_init) :=
  fn_okB N_kd_init ["self", "web"] 2 2 0 KN.m_kd_init T.F_kd_init sc_kd_init rfl rfl rfl fun cdv A outer s H E hr => by
    unfold KN.m_kd_init
    exact (dss_cons (ds_fldSt 0 (kd_at T.IA_kd ⟨T.cl_kd, T.no_web⟩) (de_var 1))
      (dss_one (ds_fldSt 0 (kd_at T.IA_kd ⟨T.cl_kd, T.no_past⟩) (DO.fz (do_tup (DAn.da an_nil))))))
end
end K61

set_option Elab.async false
set_option linter.all false
set_option maxRecDepth 100000
namespace K61
open PySem PySem.Spec PyProof.Rows L2 DL
section
variable {P : Program} {w : World} {K : PySem.W.Frag} {mg : Str → Option Value} {base : Heap}
set_option maxHeartbeats 4000000 in
theorem ok_kd_past_now (T : Tx K mg) : FnOk P w K mg base CX0 1 T.a_kd_past_now T.fd_kd_past_now ["self"] (spB K 1 0 KN.f_kd_past_now) :=
  fn_okB N_kd_past_now ["self"] 1 1 0 KN.m_kd_past_now T.F_kd_past_now sc_kd_past_now rfl rfl rfl fun cdv A outer s H E hr => by
    unfold KN.m_kd_past_now
    exact (dss_one (ds_ret (de_fldI 0 (kd_at T.IA_kd ⟨T.cl_kd, T.no_past⟩))))
end
end K61

set_option Elab.async false
set_option linter.all false
set_option maxRecDepth 100000
namespace K61
open PySem PySem.Spec PyProof.Rows L2 DL
section
variable {P : Program} {w : World} {K : PySem.W.Frag} {mg : Str → Option Value} {base : Heap}
set_option maxHeartbeats 4000000 in
theorem ok__law_number (T : Tx K mg) : FnOk P w K mg base CX0 1 T.a__law_number T.fd__law_number ["script", "k"] (spP K 2 KN.f__law_number) :=
  fn_ok N__law_number ["script", "k"] 9 2 KN.m__law_number T.F__law_number sc__law_number rfl rfl rfl fun cdv A outer s H E hr => by
    unfold KN.m__law_number KN._law_number_fb1
    exact (dss_cons (ds_setO (i := 2) sc__law_number.nd rfl (by first | exact Or.inl rfl | exact Or.inr rfl) (do_add (DO.fz (do_list rfl rfl T.z_list (DAn.da (an_cons (de_var 0) an_nil)))) (DO.fz (do_lst (DAn.da (an_cons de_int an_nil))))))
      (dss_cons (ds_setO (i := 3) sc__law_number.nd rfl (by first | exact Or.inl rfl | exact Or.inr rfl) (do_max2 rfl rfl T.z_max (DAn.da (an_cons de_int (an_cons (DO.fz (do_len rfl T.z_len (DAn.da (an_cons (de_var 0) an_nil)))) an_nil)))))
      (dss_cons (ds_setO (i := 4) sc__law_number.nd rfl (by first | exact Or.inl rfl | exact Or.inr rfl) (do_ix (u1 hr) (de_var 2) (DO.fz (do_mod (de_var 1) (de_var 3)))))
      (dss_cons (ds_setO (i := 5) sc__law_number.nd rfl (by first | exact Or.inl rfl | exact Or.inr rfl) (do_div (de_var 1) (de_var 3)))
      (dss_cons (ds_set (i := 6) sc__law_number.nd rfl (by first | exact Or.inl rfl | exact Or.inr rfl) (de_var 4))
      (dss_cons (ds_for (ws := [7]) PassesOwn.never rfl (di_fg (di_range1 rfl T.z_range (DAn.da (an_cons (DO.fz (do_min2 rfl rfl T.z_min (DAn.da (an_cons (de_var 5) (an_cons de_int an_nil))))) an_nil)))) (dg_name (i := 7) sc__law_number.nd rfl (by first | exact Or.inl rfl | exact Or.inr rfl)) (dss_fg (dss_one (ds_setO (i := 6) sc__law_number.nd rfl (by first | exact Or.inl rfl | exact Or.inr rfl) (do_div (de_var 6) de_int)))))
      (dss_cons (ds_if (DW.dt (dw_and (dt_ge (de_var 4) (DO.fz (do_pow de_int de_int))) (dw_and (dt_lt (de_var 5) de_int) (dw_and1 (dt_gt (de_var 6) de_int))))) (dss_one (ds_ret (DO.fz (do_mod (de_var 6) de_int)))) dss_nil)
      (dss_cons (ds_setO (i := 8) sc__law_number.nd rfl (by first | exact Or.inl rfl | exact Or.inr rfl) (do_mod (DO.fz (do_mulT (DO.fz (do_add (DO.fz (do_add (DO.fz (do_add (DO.fz (do_mod (de_var 4) de_int)) de_int)) (DO.fz (do_mulT de_int (de_var 5))))) (DO.fz (do_mulT de_int (de_var 1))))) de_int)) de_int))
      (dss_cons (ds_setO (i := 8) sc__law_number.nd rfl (by first | exact Or.inl rfl | exact Or.inr rfl) (do_mod (DO.fz (do_add (DO.fz (do_add (DO.fz (do_mulT (de_var 8) (de_var 8))) (DO.fz (do_mulT de_int (de_var 5))))) (DO.fz (do_mulT de_int (de_var 1))))) de_int))
      (dss_one (ds_ret (DO.fz (do_mod (DO.fz (do_div (DO.fz (do_mod (DO.fz (do_mulT (de_var 8) de_int)) de_int)) de_int)) de_int)))))))))))))
end
end K61

set_option Elab.async false
set_option linter.all false
set_option maxRecDepth 100000
namespace K61
open PySem PySem.Spec PyProof.Rows L2 DL
section
variable {P : Program} {w : World} {K : PySem.W.Frag} {mg : Str → Option Value} {base : Heap}
set_option maxHeartbeats 4000000 in
theorem ok__law_ways (T : Tx K mg) : FnOk P w K mg base CX0 1 T.a__law_ways T.fd__law_ways ["web"] (spP K 1 KW.f__law_ways) :=
  fn_ok N__law_ways ["web"] 4 1 KW.m__law_ways T.F__law_ways sc__law_ways rfl rfl rfl fun cdv A outer s H E hr => by
    unfold KW.m__law_ways KW._law_ways_ce1
    exact (dss_one (ds_ret (DO.fz (do_dict rfl rfl T.z_dict (DAn.da (an_cons (DO.fz (do_lc [("name", 1), ("weight", 2), ("images", 3)] rfl sc__law_ways.nd (di_any (DO.fz (do_ix (u1 hr) (de_var 0) de_int))) (blkOk_by (own := [("name", 1), ("weight", 2), ("images", 3)]) (N := N__law_ways) (sc := (defScope s__law_ways)) (by decide +kernel)) (fun _ _ _ _ _ => (dg_tup rfl (dgs_cons (dg_name (i := 1) sc__law_ways.nd rfl (by first | exact Or.inl rfl | exact Or.inr rfl)) (dgs_cons (dg_name (i := 2) sc__law_ways.nd rfl (by first | exact Or.inl rfl | exact Or.inr rfl)) (dgs_cons (dg_name (i := 3) sc__law_ways.nd rfl (by first | exact Or.inl rfl | exact Or.inr rfl)) dgs_nil))))) (fun _ _ _ _ _ => dts_nil) (fun _ _ _ _ _ => (DO.fz (do_tup (DAn.da (an_cons (de_var 1) (an_cons (DO.fz (do_dictZip rfl rfl T.z_dict rfl T.z_zip (DAn.da (an_cons (DO.fz (do_ix (u1 hr) (de_var 0) de_int)) (an_cons (de_var 3) an_nil))))) an_nil)))))))) an_nil))))))
end
end K61

set_option Elab.async false
set_option linter.all false
set_option maxRecDepth 100000
namespace K61
open PySem PySem.Spec PyProof.Rows L2 DL
section
variable {P : Program} {w : World} {K : PySem.W.Frag} {mg : Str → Option Value} {base : Heap}
set_option maxHeartbeats 4000000 in
theorem ok_led_by (T : Tx K mg) : FnOk P w K mg base CX0 2 T.a_led_by T.fd_led_by ["web", "past"] (spP K 2 LD.f_led_by) :=
  fn_ok N_led_by ["web", "past"] 6 2 LD.m_led_by T.F_led_by sc_led_by rfl rfl rfl fun cdv A outer s H E hr => by
    unfold LD.m_led_by LD.led_by_fb1 LD.led_by_ce1
    exact (dss_cons (ds_set (i := 2) sc_led_by.nd rfl (by first | exact Or.inl rfl | exact Or.inr rfl) (de_call (ok_ways_of T) (hr.mono (by decide)) rfl T.g_ways_of T.F_ways_of.kp T.b_ways_of (an_cons (de_var 0) an_nil)))
      (dss_cons (ds_setO (i := 3) sc_led_by.nd rfl (by first | exact Or.inl rfl | exact Or.inr rfl) (do_list rfl rfl T.z_list (DAn.da (an_cons (DO.fz (do_ix (u1 hr) (de_var 0) de_int)) an_nil))))
      (dss_cons (ds_for (ws := [4]) PassesOwn.never rfl (di_any (de_var 1)) (dg_name (i := 4) sc_led_by.nd rfl (by first | exact Or.inl rfl | exact Or.inr rfl)) (dss_cons (ds_if (dt_notin (u65 hr) (de_var 4) (de_var 2)) (dss_one ds_never) dss_nil)
      (dss_one (by first | exact ds_setLc (i := 3) [("state", 5)] rfl sc_led_by.nd rfl rfl (sw_true rfl rfl rfl (by decide +kernel)) (di_any (de_var 3)) (blkOk_by (own := [("state", 5)]) (N := N_led_by) (sc := (defScope s_led_by)) (by decide +kernel)) (fun _ _ _ _ _ => (dg_name (i := 5) sc_led_by.nd rfl (by first | exact Or.inl rfl | exact Or.inr rfl))) (fun _ _ _ _ _ => dts_nil) (fun _ _ _ _ _ => (DO.fz (do_ix (u1 hr) (DO.fz (do_ix (u1 hr) (de_var 2) (de_var 4))) (de_var 5)))) | exact ds_setO (i := 3) sc_led_by.nd rfl (by first | exact Or.inl rfl | exact Or.inr rfl) (do_lc [("state", 5)] rfl sc_led_by.nd (di_any (de_var 3)) (blkOk_by (own := [("state", 5)]) (N := N_led_by) (sc := (defScope s_led_by)) (by decide +kernel)) (fun _ _ _ _ _ => (dg_name (i := 5) sc_led_by.nd rfl (by first | exact Or.inl rfl | exact Or.inr rfl))) (fun _ _ _ _ _ => dts_nil) (fun _ _ _ _ _ => (DO.fz (do_ix (u1 hr) (DO.fz (do_ix (u1 hr) (de_var 2) (de_var 4))) (de_var 5)))))))))
      (dss_one (ds_ret (DO.fz (do_tuple rfl T.z_tuple (DAn.da (an_cons (de_var 3) an_nil)))))))))
end
end K61

set_option Elab.async false
set_option linter.all false
set_option maxRecDepth 100000
namespace K61
open PySem PySem.Spec PyProof.Rows L2 DL
section
variable {P : Program} {w : World} {K : PySem.W.Frag} {mg : Str → Option Value} {base : Heap}
set_option maxHeartbeats 4000000 in
theorem ok__law_names (T : Tx K mg) : FnOk P w K mg base CX0 2 T.a__law_names T.fd__law_names ["script", "start", "many"] (spP K 3 KN.f__law_names) :=
  fn_ok N__law_names ["script", "start", "many"] 11 3 KN.m__law_names T.F__law_names sc__law_names rfl rfl rfl fun cdv A outer s H E hr => by
    unfold KN.m__law_names KN._law_names_fb1 KN._law_names_ce1
    exact (dss_cons (ds_set (i := 3) sc__law_names.nd rfl (by first | exact Or.inl rfl | exact Or.inr rfl) de_str)
      (dss_cons (ds_setO (i := 4) sc__law_names.nd rfl (by first | exact Or.inl rfl | exact Or.inr rfl) (do_lst (DAn.da (an_cons de_str (an_cons de_str (an_cons de_str (an_cons de_str (an_cons de_str (an_cons de_str (an_cons de_str (an_cons de_str an_nil)))))))))))
      (dss_cons (ds_set (i := 5) sc__law_names.nd rfl (by first | exact Or.inl rfl | exact Or.inr rfl) (de_call (ok__law_number T) (hr.mono (by decide)) rfl T.g__law_number T.F__law_number.kp T.b__law_number (an_cons (de_var 0) (an_cons (de_var 1) an_nil))))
      (dss_cons (ds_setO (i := 6) sc__law_names.nd rfl (by first | exact Or.inl rfl | exact Or.inr rfl) (do_mod (DO.fz (do_div (de_var 5) de_int)) de_int))
      (dss_cons (ds_setO (i := 7) sc__law_names.nd rfl (by first | exact Or.inl rfl | exact Or.inr rfl) (do_lst (DAn.da an_nil)))
      (dss_cons (ds_setO (i := 8) sc__law_names.nd rfl (by first | exact Or.inl rfl | exact Or.inr rfl) (do_lst (DAn.da (an_cons de_str (an_cons de_str (an_cons de_str (an_cons de_str (an_cons de_str (an_cons de_str (an_cons de_str (an_cons de_str (an_cons de_str (an_cons de_str (an_cons de_str (an_cons de_str (an_cons de_str an_nil))))))))))))))))
      (dss_cons (ds_if (dt_eq hr.units (DO.fz (do_mod (DO.fz (do_div (de_var 5) de_int)) de_int)) de_int) (dss_one (ds_ret (DO.fz (do_tuple rfl T.z_tuple (DAn.da (an_cons (DO.fz (do_lc [("k", 9)] rfl sc__law_names.nd (di_range1 rfl T.z_range (DAn.da (an_cons (de_var 2) an_nil))) (blkOk_by (own := [("k", 9)]) (N := N__law_names) (sc := (defScope s__law_names)) (by decide +kernel)) (fun _ _ _ _ _ => (dg_name (i := 9) sc__law_names.nd rfl (by first | exact Or.inl rfl | exact Or.inr rfl))) (fun _ _ _ _ _ => dts_nil) (fun _ _ _ _ _ => (de_popAt 8 (DAn.da (an_cons (DO.fz (do_mod (de_call (ok__law_number T) (hr.mono (by decide)) rfl T.g__law_number T.F__law_number.kp T.b__law_number (an_cons (de_var 0) (an_cons (DO.fz (do_add (DO.fz (do_add (de_var 1) de_int)) (de_var 9))) an_nil))) (DO.fz (do_len rfl T.z_len (DAn.da (an_cons (de_var 8) an_nil)))))) an_nil)))))) an_nil)))))) dss_nil)
      (dss_cons (ds_for (ws := [9]) PassesOwn.never rfl (di_fg (di_range1 rfl T.z_range (DAn.da (an_cons (de_var 2) an_nil)))) (dg_name (i := 9) sc__law_names.nd rfl (by first | exact Or.inl rfl | exact Or.inr rfl)) (dss_fg (dss_cons (ds_setO (i := 10) sc__law_names.nd rfl (by first | exact Or.inl rfl | exact Or.inr rfl) (do_ix (u1 hr) (de_var 4) (DO.fz (do_mod (de_call (ok__law_number T) (hr.mono (by decide)) rfl T.g__law_number T.F__law_number.kp T.b__law_number (an_cons (de_var 0) (an_cons (DO.fz (do_add (DO.fz (do_add (de_var 1) de_int)) (DO.fz (do_mulT (de_var 9) (DO.fz (do_mod (DO.fz (do_div (de_var 5) de_int)) de_int)))))) an_nil))) de_int))))
      (dss_one (ds_expr (de_append 7 (DAn.da (an_cons (DO.fz (do_add (DO.fz (do_add (DO.fz (do_slice (de_var 10) dp_none (dp_some (de_var 6)))) (DO.fz (do_ix (u1 hr) (de_var 3) (DO.fz (do_mod (DO.fz (do_add (de_var 5) (DO.fz (do_mulT de_int (de_var 9))))) de_int)))))) (DO.fz (do_slice (de_var 10) (dp_some (de_var 6)) dp_none)))) an_nil))))))))
      (dss_one (ds_ret (DO.fz (do_tuple rfl T.z_tuple (DAn.da (an_cons (de_var 7) an_nil))))))))))))))
end
end K61

set_option Elab.async false
set_option linter.all false
set_option maxRecDepth 100000
namespace K61
open PySem PySem.Spec PyProof.Rows L2 DL
section
variable {P : Program} {w : World} {K : PySem.W.Frag} {mg : Str → Option Value} {base : Heap}
set_option maxHeartbeats 4000000 in
theorem ok__law_led (T : Tx K mg) : FnOk P w K mg base CX0 2 T.a__law_led T.fd__law_led ["web", "past"] (spP K 2 KW.f__law_led) :=
  fn_ok N__law_led ["web", "past"] 6 2 KW.m__law_led T.F__law_led sc__law_led rfl rfl rfl fun cdv A outer s H E hr => by
    unfold KW.m__law_led KW._law_led_fb1 KW._law_led_ce1
    exact (dss_cons (ds_set (i := 2) sc__law_led.nd rfl (by first | exact Or.inl rfl | exact Or.inr rfl) (de_call (ok__law_ways T) (hr.mono (by decide)) rfl T.g__law_ways T.F__law_ways.kp T.b__law_ways (an_cons (de_var 0) an_nil)))
      (dss_cons (ds_setO (i := 3) sc__law_led.nd rfl (by first | exact Or.inl rfl | exact Or.inr rfl) (do_list rfl rfl T.z_list (DAn.da (an_cons (DO.fz (do_ix (u1 hr) (de_var 0) de_int)) an_nil))))
      (dss_cons (ds_for (ws := [4]) PassesOwn.never rfl (di_fg (di_any (de_var 1))) (dg_name (i := 4) sc__law_led.nd rfl (by first | exact Or.inl rfl | exact Or.inr rfl)) (dss_fg (dss_one (by first | exact ds_setLc (i := 3) [("state", 5)] rfl sc__law_led.nd rfl rfl (sw_true rfl rfl rfl (by decide +kernel)) (di_any (de_var 3)) (blkOk_by (own := [("state", 5)]) (N := N__law_led) (sc := (defScope s__law_led)) (by decide +kernel)) (fun _ _ _ _ _ => (dg_name (i := 5) sc__law_led.nd rfl (by first | exact Or.inl rfl | exact Or.inr rfl))) (fun _ _ _ _ _ => dts_nil) (fun _ _ _ _ _ => (DO.fz (do_ix (u1 hr) (DO.fz (do_ix (u1 hr) (de_var 2) (de_var 4))) (de_var 5)))) | exact ds_setO (i := 3) sc__law_led.nd rfl (by first | exact Or.inl rfl | exact Or.inr rfl) (do_lc [("state", 5)] rfl sc__law_led.nd (di_any (de_var 3)) (blkOk_by (own := [("state", 5)]) (N := N__law_led) (sc := (defScope s__law_led)) (by decide +kernel)) (fun _ _ _ _ _ => (dg_name (i := 5) sc__law_led.nd rfl (by first | exact Or.inl rfl | exact Or.inr rfl))) (fun _ _ _ _ _ => dts_nil) (fun _ _ _ _ _ => (DO.fz (do_ix (u1 hr) (DO.fz (do_ix (u1 hr) (de_var 2) (de_var 4))) (de_var 5)))))))))
      (dss_one (ds_ret (DO.fz (do_tuple rfl T.z_tuple (DAn.da (an_cons (de_var 3) an_nil)))))))))
end
end K61

set_option Elab.async false
set_option linter.all false
set_option maxRecDepth 100000
namespace K61
open PySem PySem.Spec PyProof.Rows L2 DL
section
variable {P : Program} {w : World} {K : PySem.W.Frag} {mg : Str → Option Value} {base : Heap}
set_option maxHeartbeats 4000000 in
theorem ok__law_met (T : Tx K mg) : FnOk P w K mg base CX0 2 T.a__law_met T.fd__law_met ["web", "past"] (spP K 2 KW.f__law_met) :=
  fn_ok N__law_met ["web", "past"] 7 2 KW.m__law_met T.F__law_met sc__law_met rfl rfl rfl fun cdv A outer s H E hr => by
    unfold KW.m__law_met KW._law_met_fb1 KW._law_met_ce3 KW._law_met_ce2 KW._law_met_ce1
    exact (dss_cons (ds_set (i := 2) sc__law_met.nd rfl (by first | exact Or.inl rfl | exact Or.inr rfl) (de_call (ok__law_ways T) (hr.mono (by decide)) rfl T.g__law_ways T.F__law_ways.kp T.b__law_ways (an_cons (de_var 0) an_nil)))
      (dss_cons (ds_setO (i := 3) sc__law_met.nd rfl (by first | exact Or.inl rfl | exact Or.inr rfl) (do_dict rfl rfl T.z_dict (DAn.da (an_cons (DO.fz (do_lc [("state", 6)] rfl sc__law_met.nd (di_any (DO.fz (do_ix (u1 hr) (de_var 0) de_int))) (blkOk_by (own := [("state", 6)]) (N := N__law_met) (sc := (defScope s__law_met)) (by decide +kernel)) (fun _ _ _ _ _ => (dg_name (i := 6) sc__law_met.nd rfl (by first | exact Or.inl rfl | exact Or.inr rfl))) (fun _ _ _ _ _ => dts_nil) (fun _ _ _ _ _ => (DO.fz (do_tup (DAn.da (an_cons (de_var 6) (an_cons (de_var 6) an_nil)))))))) an_nil))))
      (dss_cons (ds_set (i := 4) sc__law_met.nd rfl (by first | exact Or.inl rfl | exact Or.inr rfl) de_int)
      (dss_cons (ds_for (ws := [5]) PassesOwn.never rfl (di_fg (di_any (DO.fz (do_add (DO.fz (do_lst (DAn.da (an_cons de_str an_nil)))) (DO.fz (do_revT (DO.fz (do_list rfl rfl T.z_list (DAn.da (an_cons (de_var 1) an_nil)))))))))) (dg_name (i := 5) sc__law_met.nd rfl (by first | exact Or.inl rfl | exact Or.inr rfl)) (dss_fg (dss_cons (ds_if (dt_ne hr.units (de_var 5) de_str) (dss_cons (ds_setO (i := 3) sc__law_met.nd rfl (by first | exact Or.inl rfl | exact Or.inr rfl) (do_dict rfl rfl T.z_dict (DAn.da (an_cons (DO.fz (do_lc [("state", 6)] rfl sc__law_met.nd (di_any (DO.fz (do_ix (u1 hr) (de_var 0) de_int))) (blkOk_by (own := [("state", 6)]) (N := N__law_met) (sc := (defScope s__law_met)) (by decide +kernel)) (fun _ _ _ _ _ => (dg_name (i := 6) sc__law_met.nd rfl (by first | exact Or.inl rfl | exact Or.inr rfl))) (fun _ _ _ _ _ => dts_nil) (fun _ _ _ _ _ => (DO.fz (do_tup (DAn.da (an_cons (de_var 6) (an_cons (DO.fz (do_ix (u1 hr) (de_var 3) (DO.fz (do_ix (u1 hr) (DO.fz (do_ix (u1 hr) (de_var 2) (de_var 5))) (de_var 6))))) an_nil)))))))) an_nil))))
      (dss_one (ds_setO (i := 4) sc__law_met.nd rfl (by first | exact Or.inl rfl | exact Or.inr rfl) (do_add (de_var 4) de_int)))) dss_nil)
      (dss_one (ds_if (dt_eq hr.units (DO.fz (do_lenSet rfl rfl T.z_len rfl T.z_set (DO.fz (do_lc [("state", 6)] rfl sc__law_met.nd (di_any (DO.fz (do_ix (u1 hr) (de_var 0) de_int))) (blkOk_by (own := [("state", 6)]) (N := N__law_met) (sc := (defScope s__law_met)) (by decide +kernel)) (fun _ _ _ _ _ => (dg_name (i := 6) sc__law_met.nd rfl (by first | exact Or.inl rfl | exact Or.inr rfl))) (fun _ _ _ _ _ => dts_nil) (fun _ _ _ _ _ => (DO.fz (do_ix (u1 hr) (de_var 3) (de_var 6)))))))) de_int) (dss_one (ds_ret (DO.fz (do_tup (DAn.da (an_cons (DO.fz (do_ix (u1 hr) (de_var 3) (DO.fz (do_ix (u1 hr) (DO.fz (do_ix (u1 hr) (de_var 0) de_int)) de_int)))) (an_cons (de_var 4) an_nil))))))) dss_nil)))))
      (dss_one (ds_ret de_non))))))
end
end K61

set_option Elab.async false
set_option linter.all false
set_option maxRecDepth 100000
namespace K61
open PySem PySem.Spec PyProof.Rows L2 DL
section
variable {P : Program} {w : World} {K : PySem.W.Frag} {mg : Str → Option Value} {base : Heap}
set_option maxHeartbeats 4000000 in
theorem ok_met_by (T : Tx K mg) : FnOk P w K mg base CX0 3 T.a_met_by T.fd_met_by ["web", "past"] (spP K 2 LE.f_met_by) :=
  fn_ok N_met_by ["web", "past"] 4 2 LE.m_met_by T.F_met_by sc_met_by rfl rfl rfl fun cdv A outer s H E hr => by
    unfold LE.m_met_by LE.met_by_fb1
    exact (dss_cons (ds_expr (de_call (ok_led_by T) (hr.mono (by decide)) rfl T.g_led_by T.F_led_by.kp T.b_led_by (an_cons (de_var 0) (an_cons (de_var 1) an_nil))))
      (dss_cons (ds_for (ws := [2]) PassesOwn.never rfl (di_fg (di_range1 rfl T.z_range (DAn.da (an_cons (DO.fz (do_add (DO.fz (do_len rfl T.z_len (DAn.da (an_cons (de_var 1) an_nil)))) de_int)) an_nil)))) (dg_name (i := 2) sc_met_by.nd rfl (by first | exact Or.inl rfl | exact Or.inr rfl)) (dss_fg (dss_cons (ds_set (i := 3) sc_met_by.nd rfl (by first | exact Or.inl rfl | exact Or.inr rfl) (de_call (ok_led_by T) (hr.mono (by decide)) rfl T.g_led_by T.F_led_by.kp T.b_led_by (an_cons (de_var 0) (an_cons (DO.fz (do_slice (de_var 1) (dp_some (DO.fz (do_sub (DO.fz (do_len rfl T.z_len (DAn.da (an_cons (de_var 1) an_nil)))) (de_var 2)))) dp_none)) an_nil))))
      (dss_one (ds_if (dt_eq hr.units (DO.fz (do_lenSet rfl rfl T.z_len rfl T.z_set (de_var 3))) de_int) (dss_one (ds_ret (DO.fz (do_tup (DAn.da (an_cons (DO.fz (do_ix (u1 hr) (de_var 3) de_int)) (an_cons (de_var 2) an_nil))))))) dss_nil)))))
      (dss_one (ds_ret de_non))))
end
end K61

set_option Elab.async false
set_option linter.all false
set_option maxRecDepth 100000
namespace K61
open PySem PySem.Spec PyProof.Rows L2 DL
section
variable {P : Program} {w : World} {K : PySem.W.Frag} {mg : Str → Option Value} {base : Heap}
set_option maxHeartbeats 4000000 in
theorem ok_kd_put_back (T : Tx K mg) : FnOk P w K mg base CX0 3 T.a_kd_put_back T.fd_kd_put_back ["self", "name"] (spB K 2 0 KN.f_kd_put_back) :=
  fn_okB N_kd_put_back ["self", "name"] 2 2 0 KN.m_kd_put_back T.F_kd_put_back sc_kd_put_back rfl rfl rfl fun cdv A outer s H E hr => by
    unfold KN.m_kd_put_back
    exact (dss_cons (ds_expr (de_call (ok_led_by T) (hr.mono (by decide)) rfl T.g_led_by T.F_led_by.kp T.b_led_by (an_cons (de_fldI 0 (kd_at T.IA_kd ⟨T.cl_kd, T.no_web⟩)) (an_cons (DO.fz (do_tup (DAn.da (an_cons (de_var 1) an_nil)))) an_nil))))
      (dss_one (ds_fldSt 0 (kd_at T.IA_kd ⟨T.cl_kd, T.no_past⟩) (DO.fz (do_add (DO.fz (do_tup (DAn.da (an_cons (de_var 1) an_nil)))) (de_fldI 0 (kd_at T.IA_kd ⟨T.cl_kd, T.no_past⟩)))))))
end
end K61

set_option Elab.async false
set_option linter.all false
set_option maxRecDepth 100000
namespace K61
open PySem PySem.Spec PyProof.Rows L2 DL
section
variable {P : Program} {w : World} {K : PySem.W.Frag} {mg : Str → Option Value} {base : Heap}
set_option maxHeartbeats 4000000 in
theorem ok_kd_put_now (T : Tx K mg) : FnOk P w K mg base CX0 3 T.a_kd_put_now T.fd_kd_put_now ["self", "name"] (spB K 2 0 KN.f_kd_put_now) :=
  fn_okB N_kd_put_now ["self", "name"] 2 2 0 KN.m_kd_put_now T.F_kd_put_now sc_kd_put_now rfl rfl rfl fun cdv A outer s H E hr => by
    unfold KN.m_kd_put_now
    exact (dss_cons (ds_expr (de_call (ok_led_by T) (hr.mono (by decide)) rfl T.g_led_by T.F_led_by.kp T.b_led_by (an_cons (de_fldI 0 (kd_at T.IA_kd ⟨T.cl_kd, T.no_web⟩)) (an_cons (DO.fz (do_tup (DAn.da (an_cons (de_var 1) an_nil)))) an_nil))))
      (dss_one (ds_fldSt 0 (kd_at T.IA_kd ⟨T.cl_kd, T.no_past⟩) (DO.fz (do_add (de_fldI 0 (kd_at T.IA_kd ⟨T.cl_kd, T.no_past⟩)) (DO.fz (do_tup (DAn.da (an_cons (de_var 1) an_nil)))))))))
end
end K61

set_option Elab.async false
set_option linter.all false
set_option maxRecDepth 100000
namespace K61
open PySem PySem.Spec PyProof.Rows L2 DL
section
variable {P : Program} {w : World} {K : PySem.W.Frag} {mg : Str → Option Value} {base : Heap}
set_option maxHeartbeats 4000000 in
theorem ok_kd_leads_now (T : Tx K mg) : FnOk P w K mg base CX0 3 T.a_kd_leads_now T.fd_kd_leads_now ["self"] (spB K 1 0 KN.f_kd_leads_now) :=
  fn_okB N_kd_leads_now ["self"] 1 1 0 KN.m_kd_leads_now T.F_kd_leads_now sc_kd_leads_now rfl rfl rfl fun cdv A outer s H E hr => by
    unfold KN.m_kd_leads_now
    exact (dss_one (ds_ret (de_call (ok_led_by T) (hr.mono (by decide)) rfl T.g_led_by T.F_led_by.kp T.b_led_by (an_cons (de_fldI 0 (kd_at T.IA_kd ⟨T.cl_kd, T.no_web⟩)) (an_cons (de_fldI 0 (kd_at T.IA_kd ⟨T.cl_kd, T.no_past⟩)) an_nil)))))
end
end K61

set_option Elab.async false
set_option linter.all false
set_option maxRecDepth 100000
namespace K61
open PySem PySem.Spec PyProof.Rows L2 DL
section
variable {P : Program} {w : World} {K : PySem.W.Frag} {mg : Str → Option Value} {base : Heap}
set_option maxHeartbeats 4000000 in
theorem ok__law_web (T : Tx K mg) : FnOk P w K mg base CX0 3 T.a__law_web T.fd__law_web ["script", "start", "most", "moves"] (spP K 4 KN.f__law_web) :=
  fn_ok N__law_web ["script", "start", "most", "moves"] 20 4 KN.m__law_web T.F__law_web sc__law_web rfl rfl rfl fun cdv A outer s H E hr => by
    unfold KN.m__law_web KN._law_web_fb2 KN._law_web_fb1 KN._law_web_ce1 KN._law_web_ct1
    exact (dss_cons (ds_set (i := 4) sc__law_web.nd rfl (by first | exact Or.inl rfl | exact Or.inr rfl) (de_call (ok__law_number T) (hr.mono (by decide)) rfl T.g__law_number T.F__law_number.kp T.b__law_number (an_cons (de_var 0) (an_cons (de_var 1) an_nil))))
      (dss_cons (ds_setO (i := 5) sc__law_web.nd rfl (by first | exact Or.inl rfl | exact Or.inr rfl) (do_add de_int (DO.fz (do_mod (de_var 4) (de_var 2)))))
      (dss_cons (ds_set (i := 6) sc__law_web.nd rfl (by first | exact Or.inl rfl | exact Or.inr rfl) (de_call (ok__law_names T) (hr.mono (by decide)) rfl T.g__law_names T.F__law_names.kp T.b__law_names (an_cons (de_var 0) (an_cons (DO.fz (do_add (de_var 1) de_int)) (an_cons (de_var 5) an_nil)))))
      (dss_cons (ds_set (i := 7) sc__law_web.nd rfl (by first | exact Or.inl rfl | exact Or.inr rfl) (de_call (ok__law_names T) (hr.mono (by decide)) rfl T.g__law_names T.F__law_names.kp T.b__law_names (an_cons (de_var 0) (an_cons (DO.fz (do_add (de_var 1) de_int)) (an_cons (DO.fz (do_add de_int (DO.fz (do_mod (DO.fz (do_div (de_var 4) de_int)) (de_var 3))))) an_nil)))))
      (dss_cons (ds_if (dt_eq hr.units (DO.fz (do_mod (DO.fz (do_div (de_var 4) de_int)) de_int)) de_int) (dss_cons (ds_setO (i := 7) sc__law_web.nd rfl (by first | exact Or.inl rfl | exact Or.inr rfl) (do_slice (DO.fz (do_add (de_var 6) (de_var 7))) dp_none (dp_some (DO.fz (do_len rfl T.z_len (DAn.da (an_cons (de_var 7) an_nil)))))))
      (dss_one (ds_setO (i := 7) sc__law_web.nd rfl (by first | exact Or.inl rfl | exact Or.inr rfl) (do_tuple rfl T.z_tuple (DAn.da (an_cons (DO.fz (do_lc [("k", 9), ("name", 10)] rfl sc__law_web.nd (di_enum rfl T.z_enumerate (DAn.da (an_cons (de_var 7) an_nil))) (blkOk_by (own := [("k", 9), ("name", 10)]) (N := N__law_web) (sc := (defScope s__law_web)) (by decide +kernel)) (fun _ _ _ _ _ => (dg_tup rfl (dgs_cons (dg_name (i := 9) sc__law_web.nd rfl (by first | exact Or.inl rfl | exact Or.inr rfl)) (dgs_cons (dg_name (i := 10) sc__law_web.nd rfl (by first | exact Or.inl rfl | exact Or.inr rfl)) dgs_nil)))) (fun _ _ _ _ _ => (dts_one (dt_notin (u65 hr) (de_var 10) (DO.fz (do_slice (de_var 7) dp_none (dp_some (de_var 9))))))) (fun _ _ _ _ _ => (de_var 10)))) an_nil)))))) dss_nil)
      (dss_cons (ds_setO (i := 8) sc__law_web.nd rfl (by first | exact Or.inl rfl | exact Or.inr rfl) (do_lst (DAn.da an_nil)))
      (dss_cons (ds_for (ws := [9, 10]) PassesOwn.never rfl (di_fg (di_enum rfl T.z_enumerate (DAn.da (an_cons (de_var 7) an_nil)))) (dg_tup rfl (dgs_cons (dg_name (i := 9) sc__law_web.nd rfl (by first | exact Or.inl rfl | exact Or.inr rfl)) (dgs_cons (dg_name (i := 10) sc__law_web.nd rfl (by first | exact Or.inl rfl | exact Or.inr rfl)) dgs_nil))) (dss_fg (dss_cons (ds_set (i := 11) sc__law_web.nd rfl (by first | exact Or.inl rfl | exact Or.inr rfl) (de_call (ok__law_number T) (hr.mono (by decide)) rfl T.g__law_number T.F__law_number.kp T.b__law_number (an_cons (de_var 0) (an_cons (DO.fz (do_add (DO.fz (do_add (de_var 1) de_int)) (de_var 9))) an_nil))))
      (dss_cons (ds_setO (i := 12) sc__law_web.nd rfl (by first | exact Or.inl rfl | exact Or.inr rfl) (do_mod (de_var 11) de_int))
      (dss_cons (ds_setO (i := 13) sc__law_web.nd rfl (by first | exact Or.inl rfl | exact Or.inr rfl) (do_ix (u1 hr) (DO.fz (do_lst (DAn.da (an_cons de_int (an_cons (DO.fz (do_add de_int (DO.fz (do_mod (DO.fz (do_div (de_var 11) de_int)) de_int)))) (an_cons (DO.fz (do_add de_int (DO.fz (do_mod (DO.fz (do_div (de_var 11) de_int)) de_int)))) an_nil)))))) (DO.fz (do_mod (DO.fz (do_div (de_var 11) de_int)) de_int))))
      (dss_cons (ds_setO (i := 14) sc__law_web.nd rfl (by first | exact Or.inl rfl | exact Or.inr rfl) (do_lst (DAn.da an_nil)))
      (dss_cons (ds_for (ws := [15]) PassesOwn.never rfl (di_fg (di_range1 rfl T.z_range (DAn.da (an_cons (de_var 5) an_nil)))) (dg_name (i := 15) sc__law_web.nd rfl (by first | exact Or.inl rfl | exact Or.inr rfl)) (dss_fg (dss_cons (ds_set (i := 16) sc__law_web.nd rfl (by first | exact Or.inl rfl | exact Or.inr rfl) (de_call (ok__law_number T) (hr.mono (by decide)) rfl T.g__law_number T.F__law_number.kp T.b__law_number (an_cons (de_var 0) (an_cons (DO.fz (do_add (DO.fz (do_add (DO.fz (do_add (de_var 1) de_int)) (DO.fz (do_mulT de_int (de_var 9))))) (de_var 15))) an_nil))))
      (dss_cons (ds_setO (i := 17) sc__law_web.nd rfl (by first | exact Or.inl rfl | exact Or.inr rfl) (do_mod (de_var 16) (de_var 5)))
      (dss_cons (ds_setO (i := 18) sc__law_web.nd rfl (by first | exact Or.inl rfl | exact Or.inr rfl) (do_mod (DO.fz (do_add (de_var 15) (DO.fz (do_div (de_var 11) de_int)))) (de_var 5)))
      (dss_cons (ds_setO (i := 19) sc__law_web.nd rfl (by first | exact Or.inl rfl | exact Or.inr rfl) (do_ix (u1 hr) (DO.fz (do_lst (DAn.da (an_cons (de_var 17) (an_cons (DO.fz (do_mod (de_var 16) (DO.fz (do_min2 rfl rfl T.z_min (DAn.da (an_cons de_int (an_cons (de_var 5) an_nil))))))) (an_cons (de_var 18) (an_cons (de_var 15) (an_cons (DO.fz (do_max2 rfl rfl T.z_max (DAn.da (an_cons de_int (an_cons (DO.fz (do_sub (de_var 15) de_int)) an_nil))))) (an_cons (de_var 17) an_nil))))))))) (de_var 12)))
      (dss_cons (ds_if (DW.dt (dw_and (dt_eq hr.units (de_var 12) de_int) (dw_and1 (dt_eq hr.units (de_var 15) (DO.fz (do_mod (DO.fz (do_div (de_var 11) de_int)) (de_var 5))))))) (dss_one (ds_setO (i := 19) sc__law_web.nd rfl (by first | exact Or.inl rfl | exact Or.inr rfl) (do_mod (de_var 16) (de_var 5)))) dss_nil)
      (dss_one (ds_expr (de_append 14 (DAn.da (an_cons (DO.fz (do_ix (u1 hr) (de_var 6) (de_var 19))) an_nil))))))))))))
      (dss_one (ds_expr (de_append 8 (DAn.da (an_cons (DO.fz (do_tup (DAn.da (an_cons (de_var 10) (an_cons (de_var 13) (an_cons (DO.fz (do_tuple rfl T.z_tuple (DAn.da (an_cons (de_var 14) an_nil)))) an_nil)))))) an_nil))))))))))))
      (dss_one (ds_ret (DO.fz (do_tup (DAn.da (an_cons (de_var 6) (an_cons (DO.fz (do_tuple rfl T.z_tuple (DAn.da (an_cons (de_var 8) an_nil)))) an_nil))))))))))))))
end
end K61

set_option Elab.async false
set_option linter.all false
set_option maxRecDepth 100000
namespace K61
open PySem PySem.Spec PyProof.Rows L2 DL
section
variable {P : Program} {w : World} {K : PySem.W.Frag} {mg : Str → Option Value} {base : Heap}
set_option maxHeartbeats 4000000 in
theorem ok_kd_met_now (T : Tx K mg) : FnOk P w K mg base CX0 4 T.a_kd_met_now T.fd_kd_met_now ["self"] (spB K 1 0 KN.f_kd_met_now) :=
  fn_okB N_kd_met_now ["self"] 1 1 0 KN.m_kd_met_now T.F_kd_met_now sc_kd_met_now rfl rfl rfl fun cdv A outer s H E hr => by
    unfold KN.m_kd_met_now
    exact (dss_one (ds_ret (de_call (ok_met_by T) (hr.mono (by decide)) rfl T.g_met_by T.F_met_by.kp T.b_met_by (an_cons (de_fldI 0 (kd_at T.IA_kd ⟨T.cl_kd, T.no_web⟩)) (an_cons (de_fldI 0 (kd_at T.IA_kd ⟨T.cl_kd, T.no_past⟩)) an_nil)))))
end
end K61

set_option Elab.async false
set_option linter.all false
set_option maxRecDepth 100000
namespace K61
open PySem PySem.Spec PyProof.Rows L2 DL
section
variable {P : Program} {w : World} {K : PySem.W.Frag} {mg : Str → Option Value} {base : Heap}
set_option maxHeartbeats 4000000 in
theorem ok__law_as_due (T : Tx K mg) : FnOk P w K mg base CX0 5 T.a__law_as_due T.fd__law_as_due ["kept", "web", "past"] (spB K 3 0 f__law_as_due) :=
  fn_okB N__law_as_due ["kept", "web", "past"] 4 3 0 m__law_as_due T.F__law_as_due sc__law_as_due rfl rfl rfl fun cdv A outer s H E hr => by
    unfold m__law_as_due
    exact (dss_cons (ds_setO (i := 3) sc__law_as_due.nd rfl (by first | exact Or.inl rfl | exact Or.inr rfl) (do_lst (DAn.da (an_cons (de_meth0 0 T.IA_kd T.cl_kd T.mt_kd_past_now (ok_kd_past_now T) (hr.mono (by decide)) T.b_kd_past_now) (an_cons (de_meth0 0 T.IA_kd T.cl_kd T.mt_kd_leads_now (ok_kd_leads_now T) (hr.mono (by decide)) T.b_kd_leads_now) (an_cons (de_meth0 0 T.IA_kd T.cl_kd T.mt_kd_met_now (ok_kd_met_now T) (hr.mono (by decide)) T.b_kd_met_now) an_nil))))))
      (dss_cons (ds_if (dt_ne hr.units (de_var 3) (DO.fz (do_lst (DAn.da (an_cons (de_var 2) (an_cons (de_call (ok__law_led T) (hr.mono (by decide)) rfl T.g__law_led T.F__law_led.kp T.b__law_led (an_cons (de_var 1) (an_cons (de_var 2) an_nil))) (an_cons (de_call (ok__law_met T) (hr.mono (by decide)) rfl T.g__law_met T.F__law_met.kp T.b__law_met (an_cons (de_var 1) (an_cons (de_var 2) an_nil))) an_nil))))))) (dss_one (ds_ret de_bl)) dss_nil)
      (dss_cons (ds_if (DW.dt (dw_or (dt_not (dt_val (DO.fz (do_isi .tuple rfl T.z_isinstance rfl T.z_tuple (by decide +kernel) (DO.fz (do_ix (u1 hr) (de_var 3) de_int)))))) (dw_or1 (dt_not (dt_val (DO.fz (do_isi .tuple rfl T.z_isinstance rfl T.z_tuple (by decide +kernel) (DO.fz (do_ix (u1 hr) (de_var 3) de_int))))))))) (dss_one (ds_ret de_bl)) dss_nil)
      (dss_one (ds_ret (de_or (DO.fz (do_is (DO.fz (do_ix (u1 hr) (de_var 3) de_int)) de_non)) (de_one (de_and (DO.fz (do_isi .tuple rfl T.z_isinstance rfl T.z_tuple (by decide +kernel) (DO.fz (do_ix (u1 hr) (de_var 3) de_int)))) (de_one (de_not (DO.fz (do_isi .bool rfl T.z_isinstance rfl T.z_bool (by decide +kernel) (DO.fz (do_ix (u1 hr) (DO.fz (do_ix (u1 hr) (de_var 3) de_int)) de_int))))))))))))))
end
end K61

set_option Elab.async false
set_option linter.all false
set_option maxRecDepth 100000
namespace K61
open PySem PySem.Spec PyProof.Rows L2 DL
section
variable {P : Program} {w : World} {K : PySem.W.Frag} {mg : Str → Option Value} {base : Heap}
set_option maxHeartbeats 4000000 in
theorem ok_law (T : Tx K mg) : FnOk P w K mg base CX0 6 T.a_law T.fd_law ["script"] (spP K 1 f_law) :=
  fn_ok N_law ["script"] 13 1 m_law T.F_law sc_law rfl rfl rfl fun cdv A outer s H E hr => by
    unfold m_law law_fb1 law_ce1
    exact (dss_cons (by first | exact ds_setLc (i := 1) [("k", 10)] rfl sc_law.nd rfl rfl (sw_true rfl rfl rfl (by decide +kernel)) (di_range1 rfl T.z_range (DAn.da (an_cons de_int an_nil))) (blkOk_by (own := [("k", 10)]) (N := N_law) (sc := (defScope s_law)) (by decide +kernel)) (fun _ _ _ _ _ => (dg_name (i := 10) sc_law.nd rfl (by first | exact Or.inl rfl | exact Or.inr rfl))) (fun _ _ _ _ _ => dts_nil) (fun _ _ _ _ _ => (de_call (ok__law_web T) (hr.mono (by decide)) rfl T.g__law_web T.F__law_web.kp T.b__law_web (an_cons (de_var 0) (an_cons (DO.fz (do_mulT de_int (de_var 10))) (an_cons de_int (an_cons de_int an_nil)))))) | exact ds_setO (i := 1) sc_law.nd rfl (by first | exact Or.inl rfl | exact Or.inr rfl) (do_lc [("k", 10)] rfl sc_law.nd (di_range1 rfl T.z_range (DAn.da (an_cons de_int an_nil))) (blkOk_by (own := [("k", 10)]) (N := N_law) (sc := (defScope s_law)) (by decide +kernel)) (fun _ _ _ _ _ => (dg_name (i := 10) sc_law.nd rfl (by first | exact Or.inl rfl | exact Or.inr rfl))) (fun _ _ _ _ _ => dts_nil) (fun _ _ _ _ _ => (de_call (ok__law_web T) (hr.mono (by decide)) rfl T.g__law_web T.F__law_web.kp T.b__law_web (an_cons (de_var 0) (an_cons (DO.fz (do_mulT de_int (de_var 10))) (an_cons de_int (an_cons de_int an_nil))))))))
      (dss_cons (ds_setLcI (i := 2) [("web", 11)] T.IA_kd rfl sc_law.nd rfl rfl (sw_true rfl rfl rfl (by decide +kernel)) (di_any (de_var 1)) (blkOk_by (own := [("web", 11)]) (N := N_law) (sc := (defScope s_law)) (by decide +kernel)) (fun _ _ _ _ _ => (dg_name (i := 11) sc_law.nd rfl (by first | exact Or.inl rfl | exact Or.inr rfl))) (fun _ _ _ _ _ => dts_nil) (ln_cons ln_nil) (fun _ _ _ _ _ => (an_cons (de_var 11) an_nil)) (fun _ _ _ _ _ pa => pe_make T.mk_kd (ok_kd_init T) (hr.mono (by decide)) rfl T.G_kd T.b_kd_init .nil pass0 pa (by decide) rfl rfl))
      (dss_cons (ds_setO (i := 3) sc_law.nd rfl (by first | exact Or.inl rfl | exact Or.inr rfl) (do_lst (DAn.da (an_cons (DO.fz (do_tup (DAn.da an_nil))) (an_cons (DO.fz (do_tup (DAn.da an_nil))) an_nil)))))
      (dss_cons (ds_if (DW.dt (dw_or (dt_not (dt_val (de_callBN 2 (ok__law_as_due T) (hr.mono (by decide)) rfl T.g__law_as_due T.F__law_as_due.kp T.b__law_as_due de_int (an_cons (DO.fz (do_ix (u1 hr) (de_var 1) de_int)) (an_cons (DO.fz (do_tup (DAn.da an_nil))) an_nil))))) (dw_or1 (dt_not (dt_val (de_callBN 2 (ok__law_as_due T) (hr.mono (by decide)) rfl T.g__law_as_due T.F__law_as_due.kp T.b__law_as_due de_int (an_cons (DO.fz (do_ix (u1 hr) (de_var 1) de_int)) (an_cons (DO.fz (do_tup (DAn.da an_nil))) an_nil)))))))) (dss_one (ds_ret de_bl)) dss_nil)
      (dss_cons (ds_set (i := 4) sc_law.nd rfl (by first | exact Or.inl rfl | exact Or.inr rfl) (de_call (ok__law_number T) (hr.mono (by decide)) rfl T.g__law_number T.F__law_number.kp T.b__law_number (an_cons (de_var 0) (an_cons de_int an_nil))))
      (dss_cons (ds_for (ws := [5]) PassesOwn.never rfl (di_fg (di_range1 rfl T.z_range (DAn.da (an_cons (DO.fz (do_ix (u1 hr) (DO.fz (do_lst (DAn.da (an_cons (DO.fz (do_mod (DO.fz (do_div (de_var 4) de_int)) de_int)) (an_cons de_int an_nil))))) (DO.fz (do_int rfl T.z_int (DAn.da (an_cons (DO.fz (do_eq hr.units (DO.fz (do_mod (de_var 4) de_int)) de_int)) an_nil)))))) an_nil)))) (dg_name (i := 5) sc_law.nd rfl (by first | exact Or.inl rfl | exact Or.inr rfl)) (dss_fg (dss_cons (ds_set (i := 6) sc_law.nd rfl (by first | exact Or.inl rfl | exact Or.inr rfl) (de_call (ok__law_number T) (hr.mono (by decide)) rfl T.g__law_number T.F__law_number.kp T.b__law_number (an_cons (de_var 0) (an_cons (DO.fz (do_add de_int (de_var 5))) an_nil))))
      (dss_cons (ds_setO (i := 7) sc_law.nd rfl (by first | exact Or.inl rfl | exact Or.inr rfl) (do_int rfl T.z_int (DAn.da (an_cons (DO.fz (do_eq hr.units (DO.fz (do_mod (de_var 6) de_int)) de_int)) an_nil))))
      (dss_cons (ds_setO (i := 8) sc_law.nd rfl (by first | exact Or.inl rfl | exact Or.inr rfl) (do_ix (u1 hr) (DO.fz (do_ix (u1 hr) (de_var 1) (de_var 7))) de_int))
      (dss_cons (ds_setO (i := 9) sc_law.nd rfl (by first | exact Or.inl rfl | exact Or.inr rfl) (do_ix (u1 hr) (DO.fz (do_ix (u1 hr) (de_var 8) (DO.fz (do_mod (DO.fz (do_div (de_var 6) de_int)) (DO.fz (do_len rfl T.z_len (DAn.da (an_cons (de_var 8) an_nil)))))))) de_int))
      (dss_cons (ds_if (dt_eq hr.units (DO.fz (do_mod (DO.fz (do_div (de_var 6) de_int)) de_int)) de_int) (dss_cons (ds_set (i := 12) sc_law.nd rfl (by first | exact Or.inl rfl | exact Or.inr rfl) (de_methN 2 T.IA_kd T.cl_kd T.mt_kd_put_back (ok_kd_put_back T) (hr.mono (by decide)) T.b_kd_put_back (de_var 7) (an_cons (de_var 9) an_nil)))
      (dss_one (ds_store 3 (u1 hr) (DO.fz (do_add (DO.fz (do_tup (DAn.da (an_cons (de_var 9) an_nil)))) (DO.fz (do_ix (u1 hr) (de_var 3) (de_var 7))))) (de_var 7)))) (dss_cons (ds_set (i := 12) sc_law.nd rfl (by first | exact Or.inl rfl | exact Or.inr rfl) (de_methN 2 T.IA_kd T.cl_kd T.mt_kd_put_now (ok_kd_put_now T) (hr.mono (by decide)) T.b_kd_put_now (de_var 7) (an_cons (de_var 9) an_nil)))
      (dss_one (ds_store 3 (u1 hr) (DO.fz (do_add (DO.fz (do_ix (u1 hr) (de_var 3) (de_var 7))) (DO.fz (do_tup (DAn.da (an_cons (de_var 9) an_nil)))))) (de_var 7)))))
      (dss_cons (ds_if (DW.dt (dw_or (dt_isnot (de_var 12) de_non) (dw_or1 (dt_not (dt_val (de_callBN 2 (ok__law_as_due T) (hr.mono (by decide)) rfl T.g__law_as_due T.F__law_as_due.kp T.b__law_as_due (de_var 7) (an_cons (DO.fz (do_ix (u1 hr) (de_var 1) (de_var 7))) (an_cons (DO.fz (do_ix (u1 hr) (de_var 3) (de_var 7))) an_nil)))))))) (dss_one (ds_ret de_bl)) dss_nil)
      (dss_one (ds_if (DW.dt (dw_and (dt_eq hr.units (DO.fz (do_mod (de_var 5) de_int)) de_int) (dw_and1 (dt_not (dt_val (de_callBN 2 (ok__law_as_due T) (hr.mono (by decide)) rfl T.g__law_as_due T.F__law_as_due.kp T.b__law_as_due (DO.fz (do_sub de_int (de_var 7))) (an_cons (DO.fz (do_ix (u1 hr) (de_var 1) (DO.fz (do_sub de_int (de_var 7))))) (an_cons (DO.fz (do_ix (u1 hr) (de_var 3) (DO.fz (do_sub de_int (de_var 7))))) an_nil)))))))) (dss_one (ds_ret de_bl)) dss_nil))))))))))
      (dss_one (ds_ret de_bl))))))))
end
end K61

set_option Elab.async false
set_option linter.all false
set_option maxRecDepth 100000
set_option maxHeartbeats 4000000
namespace LE
open PySem L2 DL WA LD DS
theorem pairsL_zip : ∀ {ks : List (List Nat)} {ds : List D}, ks.length = ds.length → pairsL ((ks.zip ds).map fun p => D.tup [.str (T p.1), p.2]) = some ((ks.map tk).zip ds)
  | [], [], _ => rfl
  | k :: ks, d :: ds, h => by
    have := pairsL_zip (ks := ks) (ds := ds) (by simpa using h)
    rw [List.zip_cons_cons, List.map_cons]
    unfold pairsL
    simp [keyOf_T, this]
theorem dict_zip {ks : List (List Nat)} (nd : ks.Nodup) (f : List Nat → D) : dDict (.lst (ks.map fun k => D.tup [.str (T k), f k])) = some (.newK (dT ks (ks.map f))) := by
  have e : (ks.map fun k => D.tup [.str (T k), f k]) = (ks.zip (ks.map f)).map fun p => D.tup [.str (T p.1), p.2] := by
    induction ks with
    | nil => rfl
    | cons k ks ih => rw [List.nodup_cons] at nd; simp [ih nd.2]
  unfold dDict
  rw [e]
  simp only [pairsL_zip (ks := ks) (ds := ks.map f) (by simp), Option.bind_some]
  rw [kMerge_new nd (fun k _ p hp => by simp at hp)]
  rfl
theorem dT_get {ks : List (List Nat)} (f : List Nat → D) {k : List Nat} (h : k ∈ ks) : dIx (.dic (dT ks (ks.map f))) (.str (T k)) = some (.val (f k)) := by
  refine dIx_dT ?_
  induction ks with
  | nil => simp at h
  | cons a ks ih =>
    rw [List.map_cons, List.zip_cons_cons, List.lookup_cons]
    by_cases e : k = a
    · subst e; simp
    · have : (k == a) = false := by simp [e]
      rw [this]
      exact ih (by simpa [e] using h)
def count (l : List (List Nat)) : Nat := (ddp (l.map tk)).length
theorem ddp_nodup (ks : List Key) : (ddp ks).Nodup := by
  have := lawK
  suffices h : ∀ n, ∀ ks : List Key, ks.length = n → (ddp ks).Nodup from h _ ks rfl
  intro n
  induction n with
  | zero => intro ks h; rw [List.eq_nil_of_length_eq_zero h]; simp [ddp]
  | succ n ih =>
    intro ks h
    obtain ⟨k, ks', rfl⟩ : ∃ k ks', ks = ks' ++ [k] := ⟨ks.getLast (by intro e; rw [e] at h; simp at h), ks.dropLast, (List.dropLast_concat_getLast _).symm⟩
    rw [ddp_snoc]
    have ih' := ih ks' (by simpa using h)
    split
    · exact ih'
    · rename_i hc
      rw [List.nodup_append]
      refine ⟨ih', by simp, fun a ha b hb e => hc ?_⟩
      simp at hb
      subst hb
      subst e
      simp
      exact ha
theorem count_one {l : List (List Nat)} : count l = 1 ↔ ∃ x, l ≠ [] ∧ ∀ y ∈ l, y = x := by
  unfold count
  constructor
  · intro h
    obtain ⟨k, hk⟩ := List.length_eq_one_iff.mp h
    have hm : ∀ y ∈ l, tk y = k := fun y hy => by
      have : tk y ∈ ddp (l.map tk) := (ddp_mem _ _).mpr (List.mem_map.mpr ⟨y, hy, rfl⟩)
      rw [hk] at this
      simpa using this
    cases l with
    | nil => simp [ddp] at h
    | cons x r => exact ⟨x, by simp, fun y hy => tk_inj.mp ((hm y hy).trans (hm x List.mem_cons_self).symm)⟩
  · rintro ⟨x, hne, hx⟩
    have nd := ddp_nodup (l.map tk)
    have hm : ∀ k ∈ ddp (l.map tk), k = tk x := fun k hk => by
      obtain ⟨y, hy, rfl⟩ := List.mem_map.mp ((ddp_mem _ _).mp hk)
      rw [hx y hy]
    have hx' : tk x ∈ ddp (l.map tk) := (ddp_mem _ _).mpr (by
      cases l with
      | nil => exact absurd rfl hne
      | cons y r => rw [← hx y List.mem_cons_self]; simp)
    generalize ddp (l.map tk) = z at nd hm hx'
    match z, nd, hm, hx' with
    | [], _, _, h => simp at h
    | [_], _, _, _ => rfl
    | a :: b :: r, nd, hm, _ =>
      have h1 := hm a (by simp)
      have h2 := hm b (by simp)
      rw [h1, h2] at nd
      simp at nd
theorem lenSet_txs {d : D} {l : List (List Nat)} (hd : seqD d = some (txs l)) (hl : l.length ≤ 4000) : dLenSet d = some (.val (.int (count l : Nat))) := by
  unfold dLenSet
  rw [hd]
  simp only [Option.bind_some, keysL_txs, List.length_map]
  rw [if_pos hl]; rfl
theorem slice_tup {ds : List D} {k : Int} (h0 : 0 ≤ k) : ∃ o, dSl (.tup ds) (some k) none = some o ∧ o.d = .tup (ds.drop k.toNat) := by
  unfold dSl
  refine ⟨_, rfl, ?_⟩
  split
  · rename_i h
    rw [sIx_some h0] at h
    have : min k.toNat ds.length = 0 := h.1
    show D.tup ds = _
    by_cases e : k.toNat = 0
    · rw [e]; rfl
    · have : ds.length = 0 := by omega
      rw [List.eq_nil_of_length_eq_zero this]; simp
  · show D.tup (cutD ds (some k) none) = _
    rw [cut_drop _ h0]
theorem find_some {n i : Nat} {p : Nat → Bool} (hi : i < n) (h : p i = true) (hn : ∀ m, m < i → p m = false) : (List.range n).find? p = some i := by
  rw [List.find?_range_eq_some]
  exact ⟨h, by simpa using hi, fun j hj => by simp [hn j hj]⟩
theorem find_none {n : Nat} {p : Nat → Bool} (hn : ∀ m, m < n → p m = false) : (List.range n).find? p = none := by
  rw [List.find?_eq_none]
  intro x hx
  simp [hn x (by simpa using hx)]
section
variable {states : List (List Nat)} {moves : List MoveL}
/-- where all are led by the last m moves -/
def tailLed (states : List (List Nat)) (moves : List MoveL) (past : List (List Nat)) (m : Nat) : List (List Nat) := led states moves (past.drop (past.length - m))
/-- the least m at which all are one -/
def meet (states : List (List Nat)) (moves : List MoveL) (past : List (List Nat)) : Option Nat := (List.range (past.length + 1)).find? fun m => decide (count (tailLed states moves past m) = 1)
def metD (states : List (List Nat)) (moves : List MoveL) (past : List (List Nat)) : Option Nat → D
  | none => .non
  | some m => .tup [.str (T ((tailLed states moves past m).headD [])), .int m]
variable (h : W0 states moves) (h0 : 1 ≤ states.length)
include h h0
theorem head_at (past : List (List Nat)) (m : Nat) : dIx (.tup (txs (tailLed states moves past m))) (.int 0) = some (.val (.str (T ((tailLed states moves past m).headD [])))) := by
  have hl : (tailLed states moves past m).length = states.length := led_len _
  generalize tailLed states moves past m = l at hl
  cases l with
  | nil => simp at hl; omega
  | cons x r => simp [txs]
end
section
variable {states : List (List Nat)} {moves : List MoveL} (h : W0 states moves) (h0 : 1 ≤ states.length)
/-- where the last m moves lead a state -/
def tw (states : List (List Nat)) (moves : List MoveL) (past : List (List Nat)) (m : Nat) (s : List Nat) : List Nat := walk states moves (past.drop (past.length - m)) s
theorem tailLed_eq (past : List (List Nat)) (m : Nat) : tailLed states moves past m = states.map (tw states moves past m) := by
  unfold tailLed tw; exact led_eq _
theorem rng1_s {n : Nat} (h : n ≤ 100000) : rng1 [.int ((n : Int) + 1)] = some ((List.range (n + 1)).map fun i => .int (i : Nat)) := by
  have := rng1_n (n := n + 1) (by omega)
  rwa [show (((n + 1 : Nat) : Int)) = (n : Int) + 1 by omega] at this
include h h0
theorem count_pos (past : List (List Nat)) (m : Nat) : 1 ≤ count (tailLed states moves past m) := by
  have hl : (tailLed states moves past m).length = states.length := led_len _
  generalize tailLed states moves past m = l at hl
  cases l with
  | nil => simp at hl; omega
  | cons x r =>
    unfold count
    have : (ddp ((x :: r).map tk)) ≠ [] := by
      intro e
      have hm : tk x ∈ ddp ((x :: r).map tk) := by simp [ddp_mem]
      rw [e] at hm; cases hm
    exact List.length_pos_iff.mpr this
theorem met_spec {past : List (List Nat)} (hp : ∀ x ∈ past, x ∈ moves.map MoveL.name) (hl : past.length ≤ 100000) : f_met_by [webD states moves, .tup (txs past)] = some (metD states moves past (meet states moves past)) := by
  have hcap : cap = 1000000 := rfl
  have ls := led_spec h hp
  have r1 := rng1_s hl
  unfold f_met_by fnP m_met_by
  rw [wp_eq_iff]
  simp -implicitDefEqProofs [en0, ls, r1, -rng1_eq]
  refine wp_for (S := Unit) (fun _ => []) (fun i _ => ∀ m, m < i → count (tailLed states moves past m) ≠ 1) () rfl (fun m hm => by omega) (fun i d s hd hi => ?_) (fun s hs => ?_)
  · have hlt : i < past.length + 1 := by have := (List.getElem?_eq_some_iff.mp hd).1; simpa using this
    have ed : d = .int (i : Nat) := by
      simp [hlt] at hd
      exact hd.symm
    subst ed
    obtain ⟨o, eo, od⟩ := slice_tup (ds := txs past) (k := (past.length : Int) - i) (by omega)
    rw [show ((past.length : Int) - (i : Int)).toNat = past.length - i by omega, show (txs past).drop (past.length - i) = txs (past.drop (past.length - i)) by simp [txs]] at od
    have ls := led_spec h (past := past.drop (past.length - i)) fun x hx => hp x (List.mem_of_mem_drop hx)
    have hd := head_at h h0 past i
    have hc := lenSet_txs (d := .tup (txs (tailLed states moves past i))) rfl (by rw [show (tailLed states moves past i).length = states.length from led_len _]; have := h.small; omega)
    have hc1 := hc
    have hd1 := hd
    unfold tailLed at hd1 hc1
    by_cases c : count (tailLed states moves past i) = 1
    · have c1 := c
      unfold tailLed at c1
      have : meet states moves past = some i := find_some hlt (by simpa using c) fun m hm => by simpa using hi m hm
      simp [met_by_fb1, eo, od, ls, mLenSet, hc1, hd1, c1, hcap, this, metD, tailLed]
    · have c1 : ¬ (count (tailLed states moves past i) : Int) = 1 := by omega
      unfold tailLed at c1
      simp [met_by_fb1, eo, od, ls, mLenSet, hc1, hd1, c1, hcap]
      intro m hm
      by_cases e : m = i
      · rw [e]; exact c
      · exact hi m (by omega)
  · have : meet states moves past = none := find_none fun m hm => by simpa using hs m (by simpa using hm)
    simp [this, metD]
end
end LE

set_option Elab.async false
set_option linter.all false
set_option maxRecDepth 100000
set_option maxHeartbeats 4000000
namespace LE
open PySem L2 DL WA LD DS
section
variable {states : List (List Nat)} {moves : List MoveL} (h : W0 states moves) (h0 : 1 ≤ states.length)
/-- all led to one -/
def Cst (states : List (List Nat)) (moves : List MoveL) (w : List (List Nat)) : Prop := ∃ x, ∀ s ∈ states, walk states moves w s = x
theorem walk_app (a b : List (List Nat)) (s : List Nat) : walk states moves (a ++ b) s = walk states moves b (walk states moves a s) := by unfold walk; rw [List.foldl_append]
include h h0
theorem count_cst (w : List (List Nat)) : count (led states moves w) = 1 ↔ Cst states moves w := by
  rw [count_one, led_eq]
  constructor
  · rintro ⟨x, _, hx⟩
    exact ⟨x, fun s hs => hx _ (List.mem_map.mpr ⟨s, hs, rfl⟩)⟩
  · rintro ⟨x, hx⟩
    refine ⟨x, fun e => ?_, fun y hy => ?_⟩
    · have := congrArg List.length e
      simp at this
      rw [this] at h0
      simp at h0
    · obtain ⟨s, hs, rfl⟩ := List.mem_map.mp hy
      exact hx s hs
theorem cst_pre {a b : List (List Nat)} (ha : ∀ x ∈ a, x ∈ moves.map MoveL.name) (hb : Cst states moves b) : Cst states moves (a ++ b) := by
  obtain ⟨x, hx⟩ := hb
  exact ⟨x, fun s hs => by rw [walk_app]; exact hx _ (walk_mem h ha hs)⟩
theorem meet_some {q ahead : List (List Nat)} (hq : ∀ x ∈ q, x ∈ moves.map MoveL.name) (hc : Cst states moves q) (hn : q = [] ∨ ¬ Cst states moves (q.drop 1)) : meet states moves (ahead ++ q) = some q.length := by
  refine find_some (by simp; omega) ?_ fun m hm => ?_
  · have : tailLed states moves (ahead ++ q) q.length = led states moves q := by
      unfold tailLed
      rw [List.length_append, show ahead.length + q.length - q.length = ahead.length by omega, List.drop_left]
    rw [this]
    simpa using (count_cst h h0 q).mpr hc
  · have e : tailLed states moves (ahead ++ q) m = led states moves (q.drop (q.length - m)) := by
      unfold tailLed
      rw [List.length_append, show ahead.length + q.length - m = ahead.length + (q.length - m) by omega, List.drop_append, List.drop_of_length_le (show ahead.length ≤ ahead.length + (q.length - m) by omega), List.nil_append, show ahead.length + (q.length - m) - ahead.length = q.length - m by omega]
    rw [e]
    refine decide_eq_false fun hc1 => ?_
    have c1 := (count_cst h h0 _).mp hc1
    rcases hn with hn | hn
    · subst hn; simp at hm
    · apply hn
      have e2 : q.drop 1 = (q.drop 1).take (q.length - m - 1) ++ q.drop (q.length - m) := by
        have : q.drop (q.length - m) = (q.drop 1).drop (q.length - m - 1) := by rw [List.drop_drop]; congr 1; omega
        rw [this, List.take_append_drop]
      rw [e2]
      exact cst_pre h h0 (fun x hx => hq x (List.mem_of_mem_drop (List.mem_of_mem_take hx))) c1
theorem meet_none {q : List (List Nat)} (hq : ∀ x ∈ q, x ∈ moves.map MoveL.name) (hn : ¬ Cst states moves q) : meet states moves q = none := by
  refine find_none fun m hm => decide_eq_false fun hc1 => hn ?_
  have c1 := (count_cst h h0 _).mp hc1
  rw [← List.take_append_drop (q.length - m) q]
  exact cst_pre h h0 (fun x hx => hq x (List.mem_of_mem_take hx)) c1
omit h0 in
theorem imgs_mem {m : MoveL} (hm : m ∈ moves) : imgs moves m.name = m.images := by
  obtain ⟨j, hj, ej⟩ := List.getElem_of_mem hm
  have := lookup_at (ds := moves.map MoveL.images) (j := j) (k := m.name) (d := m.images) h.mnd (by simp [hj, ej]) (by simp [hj, ej])
  unfold imgs
  rw [this]; rfl
end
end LE

set_option linter.all false
namespace OR
open PySem L2 DL
end OR

set_option Elab.async false
set_option linter.all false
set_option maxRecDepth 100000
set_option maxHeartbeats 4000000
namespace OR
open PySem L2 DL WA LD LE DS
abbrev Nm := List Nat
inductive Reach (o : List (Nm × Nm)) : Nm → Nm → Prop
  | one {a b : Nm} : (a, b) ∈ o → Reach o a b
  | step {a b c : Nm} : Reach o a b → (b, c) ∈ o → Reach o a c
theorem Reach.trans {o : List (Nm × Nm)} {a b c : Nm} (h : Reach o a b) (h' : Reach o b c) : Reach o a c := by
  induction h' with
  | one e => exact .step h e
  | step _ e ih => exact .step ih e
def prD (p : Nm × Nm) : D := .tup [.str (T p.1), .str (T p.2)]
def prsD (o : List (Nm × Nm)) : List D := o.map prD
@[simp] theorem prsD_len (o : List (Nm × Nm)) : (prsD o).length = o.length := by simp [prsD]
theorem take_mem {α : Type} {l : List α} {i : Nat} {x y : α} (h : l[i]? = some x) (hy : y ∈ l.take (i + 1)) : y ∈ l.take i ∨ y = x := by
  rw [List.take_add_one, h] at hy
  simpa using hy
end OR

set_option Elab.async false
set_option linter.all false
set_option maxRecDepth 100000
set_option maxHeartbeats 4000000
namespace OR
open PySem L2 DL WA LD LE DS
/-! ### the law's own -/
/-- what a move keeps -/
def Keeps (o : List (Nm × Nm)) (states : List Nm) (g : Nm → Nm) : Prop := ∀ a ∈ states, ∀ b, Reach o a b → g a = g b ∨ Reach o (g a) (g b)
def gw (states ims : List Nm) (s : Nm) : Nm := ((states.zip ims).lookup s).getD []
structure OkO (o : List (Nm × Nm)) (states : List Nm) : Prop where
  mem : ∀ p ∈ o, p.1 ∈ states ∧ p.2 ∈ states
  len : o.length ≤ 1000
end OR

set_option Elab.async false
set_option linter.all false
set_option maxRecDepth 100000
set_option maxHeartbeats 4000000
namespace OR
open PySem L2 DL WA LD LE DS
def tD (ks : List Nm) : List (D × D) := dT ks (ks.map fun _ => .bl true)
/-- while one state is looked at -/
structure DF (o : List (Nm × Nm)) (a : Nm) (ks w : List Nm) : Prop where
  nd : ks.Nodup
  hr : ∀ x ∈ ks, Reach o a x
  hw : ∀ x ∈ w, x = a ∨ x ∈ ks
  dn : ∀ x, x = a ∨ x ∈ ks → x ∉ w → ∀ p ∈ o, p.1 = x → p.2 ∈ ks
  wl : w.length ≤ ks.length + 1
structure DG (o : List (Nm × Nm)) (a l : Nm) (k0 w0 : List Nm) (i : Nat) (ks w : List Nm) : Prop where
  nd : ks.Nodup
  hr : ∀ x ∈ ks, Reach o a x
  hw : ∀ x ∈ w, x = a ∨ x ∈ ks
  hl : l = a ∨ l ∈ ks
  dn : ∀ x, x = a ∨ x ∈ ks → x ∉ w → x ≠ l → ∀ p ∈ o, p.1 = x → p.2 ∈ ks
  now : ∀ p ∈ o.take i, p.1 = l → p.2 ∈ ks
  le : k0.length ≤ ks.length
  ln : w.length + k0.length = w0.length + ks.length
theorem DG.skip {o : List (Nm × Nm)} {a l : Nm} {k0 w0 : List Nm} {i : Nat} {ks w : List Nm} {p : Nm × Nm} (h : DG o a l k0 w0 i ks w) (hp : o[i]? = some p) (hk : p.1 = l → p.2 ∈ ks) : DG o a l k0 w0 (i + 1) ks w :=
  ⟨h.nd, h.hr, h.hw, h.hl, h.dn, fun q hq e => by
    rcases take_mem hp hq with z | z
    · exact h.now q z e
    · subst z; exact hk e, h.le, h.ln⟩
theorem DG.more {o : List (Nm × Nm)} {a l : Nm} {k0 w0 : List Nm} {i : Nat} {ks w : List Nm} {y : Nm} (h : DG o a l k0 w0 i ks w) (hp : o[i]? = some (l, y)) (hy : y ∉ ks) : DG o a l k0 w0 (i + 1) (ks ++ [y]) (w ++ [y]) := by
  have hpo := List.mem_of_getElem? hp
  refine ⟨?_, fun x hx => ?_, fun x hx => ?_, h.hl.imp id (List.mem_append_left _), fun x hx hxw hxl p hp' e => ?_, fun q hq e => ?_, by simp; have := h.le; omega, by simp; have := h.ln; omega⟩
  · rw [List.nodup_append]
    exact ⟨h.nd, by simp, fun z hz v hv e => by simp at hv; subst hv; subst e; exact hy hz⟩
  · rcases List.mem_append.mp hx with z | z
    · exact h.hr x z
    · simp at z; subst z
      rcases h.hl with rfl | hl
      · exact .one hpo
      · exact .step (h.hr l hl) hpo
  · rcases List.mem_append.mp hx with z | z
    · exact (h.hw x z).imp id (List.mem_append_left _)
    · exact .inr (List.mem_append_right _ z)
  · simp at hxw
    refine List.mem_append_left _ (h.dn x ?_ hxw.1 hxl p hp' e)
    rcases hx with z | z
    · exact .inl z
    · rcases List.mem_append.mp z with z | z
      · exact .inr z
      · simp at z; exact absurd z hxw.2
  · rcases take_mem hp hq with z | z
    · exact List.mem_append_left _ (h.now q z e)
    · subst z; simp
end OR

set_option Elab.async false
set_option linter.all false
set_option maxRecDepth 100000
set_option maxHeartbeats 4000000
namespace OR
open PySem L2 DL WA LD LE DS
def AbvOk (o : List (Nm × Nm)) (states : List Nm) (d : D) : Prop := ∃ kss : List (List Nm), d = .dic (dT states (kss.map fun ks => .dic (tD ks))) ∧ kss.length = states.length ∧ ∀ (j : Nat) (s : Nm) (ks : List Nm), states[j]? = some s → kss[j]? = some ks → ks.Nodup ∧ ∀ x, x ∈ ks ↔ Reach o s x
theorem AbvOk.at {o : List (Nm × Nm)} {states : List Nm} {d : D} (h : AbvOk o states d) (nd : states.Nodup) {s : Nm} (hs : s ∈ states) : ∃ ks, dIx d (.str (T s)) = some (.val (.dic (tD ks))) ∧ ks.Nodup ∧ ∀ x, x ∈ ks ↔ Reach o s x := by
  obtain ⟨kss, rfl, hl, hk⟩ := h
  obtain ⟨j, hj, rfl⟩ := List.getElem_of_mem hs
  refine ⟨kss[j]'(by omega), dIx_dT (lookup_at nd (j := j) (by simp [hj]) (by simp [show j < kss.length by omega])), hk j states[j] _ (by simp [hj]) (by simp [show j < kss.length by omega])⟩
theorem AbvOk.keys {o : List (Nm × Nm)} {states : List Nm} {d : D} (h : AbvOk o states d) : dKeys d = some (txs states) := by
  obtain ⟨kss, rfl, hl, _⟩ := h
  rw [dKeys_dic]
  unfold dT txs
  rw [List.map_map]
  congr 1
  have : (fun p : Nm × D => D.str (T p.1)) = (fun l => D.str (T l)) ∘ Prod.fst := rfl
  show List.map ((fun p : Nm × D => D.str (T p.1))) _ = _
  rw [this, ← List.map_map, List.map_fst_zip (by simp [hl])]
end OR

set_option Elab.async false
set_option linter.all false
set_option maxRecDepth 100000
set_option maxHeartbeats 4000000
namespace OR
open PySem L2 DL WA LD LE DS
/-- one truth for each move -/
def TruL (o : List (Nm × Nm)) (states : List Nm) (moves : List MoveL) (bs : List Bool) : Prop := ∀ (j : Nat) (m : MoveL) (b : Bool), moves[j]? = some m → bs[j]? = some b → (b = true ↔ Keeps o states (gw states m.images))
def TruOk (o : List (Nm × Nm)) (states : List Nm) (moves : List MoveL) (bs : List Bool) : Prop := bs.length = moves.length ∧ TruL o states moves bs
theorem TruOk.eq {o o' : List (Nm × Nm)} {states : List Nm} {moves : List MoveL} {bs bs' : List Bool} (h : TruOk o states moves bs) (h' : TruOk o' states moves bs') (hr : ∀ a b, Reach o a b ↔ Reach o' a b) : bs = bs' := by
  apply List.ext_getElem?
  intro i
  by_cases hi : i < moves.length
  · have h1 := h.1
    have h2 := h'.1
    have e1 : bs[i]? = some bs[i] := by simp [show i < bs.length by omega]
    have e2 : bs'[i]? = some bs'[i] := by simp [show i < bs'.length by omega]
    have k1 := h.2 i moves[i] bs[i] (by simp [hi]) e1
    have k2 := h'.2 i moves[i] bs'[i] (by simp [hi]) e2
    have kk : Keeps o states (gw states moves[i].images) ↔ Keeps o' states (gw states moves[i].images) := by unfold Keeps; simp only [hr]
    rw [e1, e2]
    congr 1
    rw [Bool.eq_iff_iff, k1, k2, kk]
  · rw [List.getElem?_eq_none (by have := h.1; omega), List.getElem?_eq_none (by have := h'.1; omega)]
end OR

set_option Elab.async false
set_option linter.all false
set_option maxRecDepth 100000
set_option maxHeartbeats 4000000
namespace OR
open PySem L2 DL WA LD LE DS
/-- up along a row -/
def Up (row : List Nm) (p : Nm × Nm) : Prop := ∃ j k : Nat, j < k ∧ row[j]? = some p.1 ∧ row[k]? = some p.2
theorem atI_map {α β : Type} (f : α → β) (l : List α) (i : Int) : atI (l.map f) i = (atI l i).map f := by
  unfold atI
  rw [List.length_map]
  cases ixN l.length i with
  | none => rfl
  | some j => simp
theorem atI_txs {l : List (List Nat)} {i : Int} {y : List Nat} (h : atI l i = some y) : atI (txs l) i = some (.str (T y)) := by unfold txs; rw [atI_map, h]; rfl
/-- pairs while they are drawn -/
structure PP (row : List Nm) (n most : Nat) (d : D) (f : List (Nm × Nm)) : Prop where
  up : ∀ p ∈ f, Up row p
  ln : f.length ≤ most
  dk : DeckOk (n + most) d
theorem PP.mono {row : List Nm} {n m m' : Nat} {d : D} {f : List (Nm × Nm)} (h : PP row n m d f) (l : m ≤ m') : PP row n m' d f := ⟨h.up, by have := h.ln; omega, h.dk.mono (by omega)⟩
end OR

set_option Elab.async false
set_option linter.all false
set_option maxRecDepth 100000
set_option maxHeartbeats 4000000
namespace OR
open PySem L2 DL WA LD LE DS
/-- how high each stands -/
structure LV (row : List Nm) (lv : List Int) : Prop where
  ln : lv.length = row.length
  bd : ∀ (k : Nat) (v : Int), lv[k]? = some v → 0 ≤ v ∧ v ≤ k
end OR

set_option Elab.async false
set_option linter.all false
set_option maxRecDepth 100000
set_option maxHeartbeats 4000000
namespace OR
open PySem L2 DL WA LD LE DS
/-- moves while they are laid -/
structure MP (states : List Nm) (moves : List MoveL) (i : Nat) (ms : List MoveL) : Prop where
  nm : ms.map MoveL.name = (moves.take i).map MoveL.name
  ok : ∀ m ∈ ms, MoveOk states m
end OR

set_option Elab.async false
set_option linter.all false
set_option maxRecDepth 100000
set_option maxHeartbeats 4000000
namespace OR
open PySem L2 DL WA LD LE DS
/-! ### truths alike -/
end OR

set_option Elab.async false
set_option linter.all false
set_option maxRecDepth 100000
set_option maxHeartbeats 4000000
namespace DL
open PySem PySem.Spec PyProof.Rows L2
/-! ### * of whole numbers, together less than a hundred million bits -/
def CMulX (i j : Int) : Prop := i.natAbs.log2 + j.natAbs.log2 < 100000000
theorem CMulX.ok {i j : Int} (h : CMulX i j) : IntMulOk i j := by
  have b : ∀ x : Int, Builtin.Int.intBits x ≤ x.natAbs.log2 + 1 := fun x => by
    unfold Builtin.Int.intBits
    split <;> omega
  have h1 := b i
  have h2 := b j
  have h3 : i.natAbs.log2 + j.natAbs.log2 < 100000000 := h
  have e : bitsLine = 134217728 := by decide
  unfold IntMulOk
  intro z
  rw [Bool.and_eq_true] at z
  have z2 := z.2
  unfold Builtin.Int.intTooBig at z2
  have z3 := of_decide_eq_true z2
  rw [e] at z3
  omega
def mulOkX (i j : Int) : Bool := decide (i.natAbs.log2 + j.natAbs.log2 < 100000000)
def dMulX : D → D → Option O1
  | .int i, .int j => if mulOkX i j = true then some (.val (.int (i * j))) else none
  | _, _ => none
@[simp] theorem dMulX_int {i j : Int} : dMulX (.int i) (.int j) = if mulOkX i j = true then some (.val (.int (i * j))) else none := rfl
/-! ### for simp -/
@[simp] theorem ev_mNGet {i : Nat} {mk : ME} {ρ : En} : mNGet i mk ρ = (nstAt ρ i).bind fun _ => (mk ρ).bind fun p => (vw p.2 p.1).bind fun kd => match kd with
  | .int k => (nstAt p.2 i).bind fun x => (L2.atI x.2 k).bind fun d => (muOff d).bind fun o => some (o, p.2)
  | _ => none := rfl
@[simp] theorem ev_mNIx {i j : Nat} {mk : ME} {ρ : En} : mNIx i mk j ρ = (nstAt ρ i).bind fun _ => (mk ρ).bind fun p => (vw p.2 p.1).bind fun kd => match kd with
  | .int k => (nstAt p.2 i).bind fun x => (L2.atI x.2 k).bind fun d => match d, p.2[j]? with
    | .mu (.lst us), some (some (.fz (.int jj))) => (L2.atI us jj).bind fun d => some (.val d, p.2)
    | _, _ => none
  | _ => none := rfl
@[simp] theorem ev_mNLen {i : Nat} {mk : ME} {ρ : En} : mNLen i mk ρ = (nstAt ρ i).bind fun _ => (mk ρ).bind fun p => (vw p.2 p.1).bind fun kd => match kd with
  | .int k => (nstAt p.2 i).bind fun x => (L2.atI x.2 k).bind fun d => match d with
    | .mu (.lst us) => some (.val (.int (us.length : Nat)), p.2)
    | _ => none
  | _ => none := rfl
@[simp] theorem ev_mNSt {i : Nat} {mk me : ME} {ρ : En} : mNSt i mk me ρ = (me ρ).bind fun p => (frR p.1 p.2).bind fun q => (nstAt q.2 i).bind fun _ => (mk q.2).bind fun r => (vw r.2 r.1).bind fun kd => match kd with
  | .int k => (nstAt r.2 i).bind fun x => (ixN x.2.length k).bind fun n => (x.2[n]?).bind fun d => if isMu d = true then none else some (.nx (r.2.set i (some (.ow x.1 (.nst (x.2.set n q.1))))))
  | _ => none := rfl
@[simp] theorem ev_mNSS {i j : Nat} {mk me : ME} {ρ : En} : mNSS i mk j me ρ = (me ρ).bind fun p => (frR p.1 p.2).bind fun q => (nstAt q.2 i).bind fun _ => (mk q.2).bind fun r => (vw r.2 r.1).bind fun kd => match kd with
  | .int k => (nstAt r.2 i).bind fun x => (ixN x.2.length k).bind fun n => match x.2[n]?, r.2[j]? with
    | some (.mu (.lst us)), some (some (.fz (.int jj))) => (ixN us.length jj).bind fun m => some (.nx (r.2.set i (some (.ow x.1 (.nst (x.2.set n (.mu (.lst (us.set m q.1)))))))))
    | _, _ => none
  | _ => none := rfl
@[simp] theorem ev_mSetNs {i : Nat} {mf : List D → Option D} {ma : MA} {ρ : En} : mSetNs i mf ma ρ = (ma ρ).bind fun p => (frs p.1 p.2).bind fun q => (mf q.1).bind fun r => if isN r = true then (setE i (.ow false r) q.2).bind fun ρ' => some (.nx ρ') else none := rfl
@[simp] theorem ev_mRetNst {ma : MA} {ρ : En} : mRetNst ma ρ = (ma ρ).bind fun p => if p.1.length ≤ cap then (nstL p.1 p.2).bind fun q => some (.rn (.nst q.1) q.2) else none := rfl
@[simp] theorem nstL_nil {ρ : En} : nstL [] ρ = some ([], ρ) := rfl
@[simp] theorem nstL_fz {d : D} {rs : List RV} {ρ : En} : nstL (.fz d :: rs) ρ = (nstL rs ρ).bind fun p => some (d :: p.1, p.2) := rfl
@[simp] theorem nstL_sl {i : Nat} {rs : List RV} {ρ : En} : nstL (.sl i :: rs) ρ = match ρ[i]? with
    | some (some (.ow false d)) => if isC d = true then (nstL rs (ρ.set i none)).bind fun p => some (.mu d :: p.1, p.2) else none
    | _ => none := rfl
@[simp] theorem nstAt_i {ρ : En} {i : Nat} : nstAt ρ i = match ρ[i]? with
  | some (some (.ow b (.nst ds))) => some (b, ds)
  | _ => none := rfl
@[simp] theorem isN_nst {ds : List D} : isN (.nst ds) = true := rfl
@[simp] theorem isC_lst {ds : List D} : isC (.lst ds) = true := rfl
@[simp] theorem isMu_int {i : Int} : isMu (.int i) = false := rfl
@[simp] theorem muOff_int {i : Int} : muOff (.int i) = some (.val (.int i)) := rfl
end DL

set_option Elab.async false
set_option linter.all false
set_option maxRecDepth 100000
set_option maxHeartbeats 4000000
namespace DL
open PySem PySem.Spec PyProof.Rows L2
/-! ### tuple(d.values()), tuple keys -/
section
variable {prog : Program} {w : World} {r d : Addr} {es : Array DictEntry} {ep : Nat}
end
def dTupValsT : D → Option O1
  | .dit kv => some (.newT (kv.map Prod.snd))
  | _ => none
@[simp] theorem dTupValsT_dit {kv : List (D × D)} : dTupValsT (.dit kv) = some (.newT (kv.map Prod.snd)) := rfl
end DL

set_option Elab.async false
set_option linter.all false
set_option maxRecDepth 100000
set_option maxHeartbeats 4000000
namespace KN
open PySem L2 DL WA LD LE OR
theorem number_spec (ns : List Int) (hl : ns.length ≤ 63) {k : Int} (k0 : 0 ≤ k) (k1 : k ≤ 100000) : Wp (f__law_number [.scr ns, .int k]) fun r => ∃ n : Int, r = .int n ∧ 0 ≤ n ∧ n < 1000000 := by
  have hcap : cap = 1000000 := rfl
  have p18 : dPow (.int 10) (.int 18) = some (.val (.int 1000000000000000000)) := rfl
  obtain ⟨L, hL⟩ : ∃ L, L = ns.map D.int ++ [D.int 0] := ⟨_, rfl⟩
  have lL : L.length = ns.length + 1 := by rw [hL]; simp
  have e1 : dList (.scr ns) = some (.newL (ns.map D.int)) := rfl
  have e2 : dAdd (.lst (ns.map D.int)) (.lst [.int 0]) = some (.newL L) := by
    have : (ns.map D.int).length + [D.int 0].length ≤ cap := by simp [hcap]; omega
    rw [hL]
    show (if (ns.map D.int).length + [D.int 0].length ≤ cap then some (O1.newL (ns.map D.int ++ [D.int 0])) else none) = _
    rw [if_pos this]
  obtain ⟨sz, hsz, z1, z2, z3⟩ : ∃ sz : Int, sz = (if 1 < (ns.length : Int) then (ns.length : Int) else 1) ∧ 1 ≤ sz ∧ sz ≤ 63 ∧ sz ≤ ns.length + 1 := by
    refine ⟨_, rfl, ?_, ?_, ?_⟩ <;> split <;> omega
  have m0 : 0 ≤ k % sz := Int.emod_nonneg _ (by omega)
  have m1 : k % sz < sz := Int.emod_lt_of_pos _ (by omega)
  obtain ⟨cell, hc⟩ : ∃ cell : Int, L2.atI L (k % sz) = some (.int cell) := by
    obtain ⟨y, y1, _, y3⟩ := atI_some (xs := L) m0 (by omega)
    have ym := List.mem_of_getElem? y3
    rw [hL] at ym
    rcases List.mem_append.mp ym with z | z
    · obtain ⟨c, _, rfl⟩ := List.mem_map.mp z
      exact ⟨c, y1⟩
    · rw [List.mem_singleton.mp z] at y1
      exact ⟨0, y1⟩
  have t0 : 0 ≤ k / sz := Int.ediv_nonneg k0 (by omega)
  have t1 : k / sz ≤ 100000 := Int.le_trans (Int.ediv_le_self _ k0) k1
  have dv : ∀ x y, 0 < y → y < 2 ^ 63 → divOk x y = true := fun x y h1 h2 => divOk64 (by omega)
  have kz : modOk k sz = true := modOk_of (by omega)
  have kd : divOk k sz = true := dv k sz (by omega) (by omega)
  have cm : modOk cell 2147483629 = true := modOk_of (by omega)
  obtain ⟨tn, htn⟩ : ∃ t, t = k / sz := ⟨_, rfl⟩
  rw [← htn] at t0 t1
  obtain ⟨kk, hkk⟩ : ∃ t, t = k % sz := ⟨_, rfl⟩
  rw [← hkk] at hc
  unfold f__law_number fnP m__law_number
  simp -implicitDefEqProofs [en0, hcap, p18, e1, e2, ← hsz, kz, kd, hc, ← htn, ← hkk]
  obtain ⟨st, hst, s0, s1⟩ : ∃ st : Int, st = (if 60 < tn then 60 else tn) ∧ 0 ≤ st ∧ st ≤ 60 := by
    refine ⟨_, rfl, ?_, ?_⟩ <;> split <;> omega
  rw [← hst]
  rw [if_pos (by omega)]
  simp -implicitDefEqProofs
  have d6 : ∀ x : Int, divOk x 1000000 = true := fun x => divOk64 (by omega)
  have d64 : ∀ x : Int, divOk x 64 = true := fun x => divOk64 (by omega)
  refine wp_for (S := Int) (fun r => [(6, .fz (.int r))]) (fun _ _ => True) cell rfl trivial (fun i x r _ _ => ?_) (fun r _ => ?_)
  · simp -implicitDefEqProofs [_law_number_fb1, d6]
  · have g1 : dGe (.int cell) (.int 1000000000000000000) = some (.val (.bl (decide (cell ≥ 1000000000000000000)))) := rfl
    have g2 : dLt (.int tn) (.int 60) = some (.val (.bl (decide (tn < 60)))) := rfl
    have g3 : dGt (.int r) (.int 0) = some (.val (.bl (decide (r > 0)))) := rfl
    obtain ⟨b1, hb1⟩ : ∃ b, b = decide (cell ≥ 1000000000000000000) := ⟨_, rfl⟩
    obtain ⟨b2, hb2⟩ : ∃ b, b = decide (tn < 60) := ⟨_, rfl⟩
    obtain ⟨b3, hb3⟩ : ∃ b, b = decide (r > 0) := ⟨_, rfl⟩
    rw [← hb1] at g1
    rw [← hb2] at g2
    rw [← hb3] at g3
    have rm : modOk r 1000000 = true := modOk_of (by omega)
    obtain ⟨a, ha⟩ : ∃ a, a = cell % 2147483629 := ⟨_, rfl⟩
    have a0 : 0 ≤ a ∧ a < 2147483629 := by omega
    have q1 : mulOk 104729 tn = true := mulOk64 (by omega) (by omega)
    have q2 : mulOk 15485863 k = true := mulOk64 (by omega) (by omega)
    have q3 : mulOk (a + 977 + 104729 * tn + 15485863 * k) 48271 = true := mulOk64 (by omega) (by omega)
    obtain ⟨e, he⟩ : ∃ e, e = (a + 977 + 104729 * tn + 15485863 * k) * 48271 % 2147483647 := ⟨_, rfl⟩
    have e0 : 0 ≤ e ∧ e < 2147483647 := by omega
    have q4 : mulOk e e = true := mulOk64 (by omega) (by omega)
    have q5 : mulOk 7919 tn = true := mulOk64 (by omega) (by omega)
    have q6 : mulOk 31 k = true := mulOk64 (by omega) (by omega)
    obtain ⟨f, hf⟩ : ∃ f, f = (e * e + 7919 * tn + 31 * k) % 2147483587 := ⟨_, rfl⟩
    have f0 : 0 ≤ f ∧ f < 2147483587 := by omega
    have q7 : mulOk f 69621 = true := mulOk64 (by omega) (by omega)
    have M1 : ∀ x, modOk x 2147483647 = true := fun x => modOk_of (by omega)
    have M2 : ∀ x, modOk x 2147483587 = true := fun x => modOk_of (by omega)
    have M3 : ∀ x, modOk x 2147483563 = true := fun x => modOk_of (by omega)
    have M4 : ∀ x, modOk x 1000000 = true := fun x => modOk_of (by omega)
    have fin : ∀ x : Int, 0 ≤ x % 1000000 ∧ x % 1000000 < 1000000 := fun x => ⟨Int.emod_nonneg _ (by omega), Int.emod_lt_of_pos _ (by omega)⟩
    have lo : 0 ≤ f * 69621 % 2147483563 / 64 % 1000000 ∧ f * 69621 % 2147483563 / 64 % 1000000 < 1000000 := fin _
    cases b1 <;> cases b2 <;> cases b3 <;> simp -implicitDefEqProofs [g1, g2, g3, rm, cm, ← ha, q1, q2, q3, ← he, q4, q5, q6, ← hf, q7, M1, M2, M3, M4, d64, fin]
end KN

namespace FC
open PySem L2 DL
noncomputable def m__law_take : MS := (mSeq (mSetO 2 (mOp dMod (fzO (mNGet 0 (mC (.int 1)))) (fzO (mNLen 0 (mC (.int 0)))))) (mSeq (mNSt 0 (mC (.int 1)) (fzO (mOp dAdd (fzO (mNGet 0 (mC (.int 1)))) (mC (.int 1))))) (mSeq (mSetO 3 (mNIx 0 (mC (.int 0)) 2)) (mSeq (mIf (mOr (mTestO (mOp dEq (mVar 3) (mC (.int 0)))) (mTestO (mOp dEq (mVar 3) (fzO (mUn dNeg (mC (.int 1))))))) (mSeq (mSetO 4 (mOp dMod (fzO (mOp dMulT (fzO (mOp dMod (fzO (mOp dAdd (fzO (mNGet 0 (mC (.int 2)))) (fzO (mOp dMulT (mC (.int 7919)) (fzO (mNGet 0 (mC (.int 1)))))))) (mC (.int 2147483587)))) (mC (.int 69621)))) (mC (.int 2147483629)))) (mSeq (mSetO 4 (mOp dMod (fzO (mOp dMulT (fzO (mOp dMod (fzO (mOp dAdd (fzO (mOp dMulT (mVar 4) (mVar 4))) (fzO (mOp dMulT (mC (.int 31)) (fzO (mNGet 0 (mC (.int 1)))))))) (mC (.int 2147483563)))) (mC (.int 16807)))) (mC (.int 2147483549)))) (mRet (fzO (mOp dMod (fzO (mOp dDiv (mVar 4) (mC (.int 8)))) (mVar 1)))))) mNx) (mSeq (mNSS 0 (mC (.int 0)) 2 (fzO (mOp dDiv (mVar 3) (mVar 1)))) (mRet (fzO (mOp dMod (mVar 3) (mVar 1)))))))))
noncomputable def f__law_take : List D → Option (D × D) := fnB 5 0 m__law_take
noncomputable def _law_names_ce1 : ME := (mMut 4 fPopAt (mCons (mCallB 0 f__law_take (mCons (mVar 0) (mCons (fzO (mCB (f1 dLen) (mCons (mVar 4) mNil))) mNil))) mNil))
noncomputable def _law_names_ce2 : ME := (fzO (mOp dIx (mVar 2) (mCallB 0 f__law_take (mCons (mVar 0) (mCons (mC (.int 26)) mNil)))))
noncomputable def _law_names_wc1 : MT := (mTestO (mOp dIn (mVar 7) (mVar 3)))
noncomputable def _law_names_wb1 : MS := (mFg [4, 5, 6] (mSeq (mSetO 7 (mOp dAdd (fzO (mOp dIx (mVar 2) (fzO (mOp dMod (mVar 8) (mC (.int 26)))))) (fzO (mOp dIx (mVar 2) (fzO (mOp dDiv (mVar 8) (mC (.int 26)))))))) (mSetO 8 (mOp dAdd (mVar 8) (mC (.int 1))))))
noncomputable def _law_names_wc2 : MT := (mTestO (mOp dLt (fzO (mCB (f1 dLen) (mCons (mVar 3) mNil))) (mVar 1)))
noncomputable def _law_names_wb2 : MS := (mFg [4, 5, 6, 7, 8] (mSeq (mSetO 5 (mM1 dJoin (mC (.str "")) (fzO (mLc (mIA rng1 (mCons (fzO (mOp dAdd (mC (.int 1)) (mCallB 0 f__law_take (mCons (mVar 0) (mCons (mC (.int 8)) mNil))))) mNil)) (mGName 9) [9] mYes _law_names_ce2)))) (mSeq (mSetO 6 (mOp dAdd (fzO (mOp dIx (fzO (mOp dAdd (fzO (mLst (mCons (mC (.str "a")) mNil))) (mVar 3))) (fzO (mUn dNeg (mC (.int 1)))))) (fzO (mOp dIx (mVar 2) (mCallB 0 f__law_take (mCons (mVar 0) (mCons (mC (.int 26)) mNil))))))) (mSeq (mSetO 7 (mOp dIx (fzO (mLst (mCons (mVar 5) (mCons (fzO (mSl (mVar 6) mNoP (mP (mC (.int 8))))) (mCons (fzO (mOp dIx (mVar 2) (mCallB 0 f__law_take (mCons (mVar 0) (mCons (mC (.int 26)) mNil))))) mNil))))) (mCallB 0 f__law_take (mCons (mVar 0) (mCons (mC (.int 3)) mNil))))) (mSeq (mSet 8 (mC (.int 0))) (mSeq (mFg0 [4, 5, 6] (mWhile _law_names_wc1 _law_names_wb1)) (mDrop (mMut 3 fAppend (mCons (mVar 7) mNil)))))))))
noncomputable def m__law_names : MS := (mSeq (mSet 2 (mC (.str "abcdefghijklmnopqrstuvwxyz"))) (mSeq (mSetO 3 (mLst mNil)) (mSeq (mIf (mTestO (mOp dEq (mCallB 0 f__law_take (mCons (mVar 0) (mCons (mC (.int 4)) mNil))) (mC (.int 0)))) (mSeq (mSetO 4 (mLst (mCons (mC (.str "a")) (mCons (mC (.str "b")) (mCons (mC (.str "ab")) (mCons (mC (.str "ba")) (mCons (mC (.str "aa")) (mCons (mC (.str "bb")) (mCons (mC (.str "aab")) (mCons (mC (.str "abb")) (mCons (mC (.str "aba")) (mCons (mC (.str "bab")) mNil)))))))))))) (mRet (fzO (mLc (mIA rng1 (mCons (mVar 1) mNil)) (mGName 9) [9] mYes _law_names_ce1)))) mNx) (mSeq (mFg0 [4, 5, 6, 7, 8] (mWhile _law_names_wc2 _law_names_wb2)) (mRet (mVar 3))))))
noncomputable def f__law_names : List D → Option (D × D) := fnB 10 0 m__law_names
end FC

set_option Elab.async false
set_option linter.all false
set_option maxRecDepth 100000
namespace BB
open PySem L2 DL
noncomputable def m__law_draw : MS := (mSeq (mStore 0 (fzO (mOp dAdd (fzO (mOp dIx (mVar 0) (mC (.int 2)))) (mC (.int 1)))) (mC (.int 2))) (mSeq (mIf (mTestO (mOp dGt (fzO (mOp dIx (mVar 0) (mC (.int 0)))) (mC (.int 0)))) (mSeq (mSetO 4 (mOp dMod (fzO (mOp dIx (mVar 0) (mC (.int 0)))) (mVar 1))) (mSeq (mStore 0 (fzO (mOp dDiv (fzO (mOp dIx (mVar 0) (mC (.int 0)))) (mVar 1))) (mC (.int 0))) (mRet (mVar 4)))) mNx) (mSeq (mSetO 2 (mOp dIx (mVar 0) (mC (.int 2)))) (mSeq (mSetO 3 (mOp dMod (fzO (mOp dAdd (fzO (mOp dAdd (fzO (mOp dIx (mVar 0) (mC (.int 1)))) (fzO (mOp dMulT (fzO (mOp dMulT (mC (.int 70003)) (mVar 2))) (mVar 2))))) (fzO (mOp dMulT (mC (.int 5003)) (mVar 2))))) (mC (.int 2147483543)))) (mSeq (mSetO 3 (mOp dMod (fzO (mOp dMulT (mVar 3) (mVar 3))) (mC (.int 2147483497)))) (mRet (fzO (mOp dMod (fzO (mOp dDiv (fzO (mOp dMod (fzO (mOp dAdd (fzO (mOp dMulT (mVar 3) (mC (.int 38333)))) (fzO (mOp dMulT (mVar 2) (mC (.int 67)))))) (mC (.int 2147483477)))) (mC (.int 13)))) (mVar 1)))))))))
noncomputable def f__law_draw : List D → Option (D × D) := fnB 5 0 m__law_draw
noncomputable def _law_names_ce1 : ME := (fzO (mOp dIx (mVar 2) (mCallB 0 f__law_draw (mCons (mVar 0) (mCons (mC (.int 26)) mNil)))))
noncomputable def _law_names_fb1 : MS := (mFg [8, 9] (mSeq (mSetO 9 (mOp dIx (mVar 2) (fzO (mOp dMod (fzO (mOp dAdd (mVar 4) (mVar 8))) (mC (.int 26)))))) (mDrop (mMut 3 fAppend (mCons (fzO (mOp dIx (fzO (mLst (mCons (fzO (mOp dAdd (mVar 9) (fzO (mOp dMulT (mC (.str "q")) (fzO (mOp dAdd (mC (.int 1)) (fzO (mOp dMod (mVar 8) (mC (.int 7)))))))))) (mCons (fzO (mOp dAdd (fzO (mOp dAdd (fzO (mSl (mVar 5) mNoP (mP (mVar 6)))) (mVar 9))) (fzO (mSl (mVar 5) (mP (mVar 6)) (mP (fzO (mOp dMod (mVar 4) (mC (.int 8))))))))) mNil)))) (mVar 7))) mNil)))))
noncomputable def _law_names_ce2 : ME := (mMut 3 fPopAt (mCons (mCallB 0 f__law_draw (mCons (mVar 0) (mCons (fzO (mCB (f1 dLen) (mCons (mVar 3) mNil))) mNil))) mNil))
noncomputable def m__law_names : MS := (mSeq (mSet 2 (mC (.str "abcdefghijklmnopqrstuvwxyz"))) (mSeq (mSetO 3 (mLst (mCons (mC (.str "a")) (mCons (mC (.str "b")) (mCons (mC (.str "ab")) (mCons (mC (.str "ba")) (mCons (mC (.str "web")) (mCons (mC (.str "back")) (mCons (mC (.str "now")) (mCons (mC (.str "past")) (mCons (mC (.str "met")) (mCons (mC (.str "rest")) (mCons (mC (.str "never")) (mCons (mC (.str "enough")) mNil)))))))))))))) (mSeq (mSet 4 (mCallB 0 f__law_draw (mCons (mVar 0) (mCons (mC (.int 26)) mNil)))) (mSeq (mSetO 5 (mM1 dJoin (mC (.str "")) (fzO (mLc (mIA rng1 (mCons (mC (.int 6)) mNil)) (mGName 8) [8] mYes _law_names_ce1)))) (mSeq (mSetO 5 (mOp dAdd (mVar 5) (fzO (mOp dIx (mVar 2) (mVar 4))))) (mSeq (mSetO 6 (mOp dAdd (mCallB 0 f__law_draw (mCons (mVar 0) (mCons (mC (.int 7)) mNil))) (fzO (mOp dMod (mVar 4) (mC (.int 2)))))) (mSeq (mSet 7 (mCallB 0 f__law_draw (mCons (mVar 0) (mCons (mC (.int 2)) mNil)))) (mSeq (mSetO 3 (mSl (mVar 3) (mP (fzO (mOp dMulT (mC (.int 12)) (mVar 7)))) mNoP)) (mSeq (mFor (mIFg [8, 9] (mIA rng1 (mCons (mC (.int 10)) mNil))) (mGName 8) _law_names_fb1) (mRet (fzO (mLc (mIA rng1 (mCons (mVar 1) mNil)) (mGName 8) [8] mYes _law_names_ce2))))))))))))
noncomputable def f__law_names : List D → Option (D × D) := fnB 10 0 m__law_names
noncomputable def _law_images_ce1 : ME := (fzO (mOp dMod (fzO (mOp dAdd (mVar 6) (mC (.int 1)))) (mVar 1)))
noncomputable def _law_images_ce2 : ME := (fzO (mOp dIx (fzO (mLst (mCons (mVar 6) (mCons (fzO (mOp dMod (fzO (mOp dAdd (mVar 6) (mC (.int 1)))) (mVar 1))) mNil)))) (fzO (mCB (f1 dInt) (mCons (fzO (mOp dEq (mVar 6) (mVar 3))) mNil)))))
noncomputable def _law_images_ce3 : ME := (fzO (mCB (f2 dMax2) (mCons (mC (.int 0)) (mCons (fzO (mCB (f2 dMin2) (mCons (fzO (mOp dSub (mVar 1) (mC (.int 1)))) (mCons (fzO (mOp dSub (fzO (mOp dAdd (mVar 6) (fzO (mOp dMulT (mC (.int 2)) (mVar 2))))) (mC (.int 5)))) mNil)))) mNil))))
noncomputable def _law_images_ce4 : ME := (fzO (mOp dIx (fzO (mLst (mCons (mVar 3) (mCons (mVar 5) mNil)))) (mCallB 0 f__law_draw (mCons (mVar 0) (mCons (mC (.int 2)) mNil)))))
noncomputable def _law_images_ce5 : ME := (mCallB 0 f__law_draw (mCons (mVar 0) (mCons (mVar 1) mNil)))
noncomputable def _law_images_ce6 : ME := (mMut 4 fPopAt (mCons (mCallB 0 f__law_draw (mCons (mVar 0) (mCons (fzO (mCB (f1 dLen) (mCons (mVar 4) mNil))) mNil))) mNil))
noncomputable def _law_images_ce7 : ME := (mVar 3)
noncomputable def _law_images_ce8 : ME := (mCallB 0 f__law_draw (mCons (mVar 0) (mCons (mVar 1) mNil)))
noncomputable def m__law_images : MS := (mSeq (mSet 2 (mCallB 0 f__law_draw (mCons (mVar 0) (mCons (mC (.int 9)) mNil)))) (mSeq (mSet 3 (mCallB 0 f__law_draw (mCons (mVar 0) (mCons (mVar 1) mNil)))) (mSeq (mSetO 4 (mUn dRgL (mVar 1))) (mSeq (mIf (mTestO (mOp dEq (mVar 2) (mC (.int 0)))) (mRet (fzO (mLc (mIAny (mVar 4)) (mGName 6) [6] mYes _law_images_ce1))) mNx) (mSeq (mIf (mTestO (mOp dEq (mVar 2) (mC (.int 1)))) (mRet (fzO (mLc (mIAny (mVar 4)) (mGName 6) [6] mYes _law_images_ce2))) mNx) (mSeq (mIf (mTestO (mOp dLt (mVar 2) (mC (.int 4)))) (mRet (fzO (mLc (mIAny (mVar 4)) (mGName 6) [6] mYes _law_images_ce3))) mNx) (mSeq (mIf (mTestO (mOp dEq (mVar 2) (mC (.int 4)))) (mSeq (mSet 5 (mCallB 0 f__law_draw (mCons (mVar 0) (mCons (mVar 1) mNil)))) (mRet (fzO (mLc (mIAny (mVar 4)) (mGName 6) [6] mYes _law_images_ce4)))) mNx) (mSeq (mIf (mTestO (mOp dEq (mVar 2) (mC (.int 5)))) (mRet (fzO (mCB (f1 dSorted) (mCons (fzO (mLc (mIAny (mVar 4)) (mGName 6) [6] mYes _law_images_ce5)) mNil)))) mNx) (mSeq (mIf (mTestO (mOp dEq (mVar 2) (mC (.int 6)))) (mRet (fzO (mLc (mIA rng1 (mCons (mVar 1) mNil)) (mGName 6) [6] mYes _law_images_ce6))) mNx) (mSeq (mIf (mTestO (mOp dEq (mVar 2) (mC (.int 7)))) (mRet (fzO (mLc (mIAny (mVar 4)) (mGName 6) [6] mYes _law_images_ce7))) mNx) (mRet (fzO (mLc (mIAny (mVar 4)) (mGName 6) [6] mYes _law_images_ce8)))))))))))))
noncomputable def f__law_images : List D → Option (D × D) := fnB 7 0 m__law_images
noncomputable def _law_web_ce1 : ME := (mCallB 0 f__law_images (mCons (mVar 0) (mCons (mVar 3) mNil)))
noncomputable def _law_web_ce2 : ME := (fzO (mOp dMod (fzO (mOp dAdd (mVar 10) (mC (.int 1)))) (mVar 3)))
noncomputable def _law_web_ce3 : ME := (fzO (mOp dIx (fzO (mLst (mCons (mVar 10) (mCons (fzO (mOp dMod (fzO (mOp dAdd (mVar 10) (mC (.int 1)))) (mVar 3))) mNil)))) (fzO (mCB (f1 dInt) (mCons (fzO (mOp dEq (mVar 10) (mC (.int 0)))) mNil)))))
noncomputable def _law_web_ce4 : ME := (fzO (mOp dIx (mVar 2) (mVar 11)))
noncomputable def _law_web_fb1 : MS := (mFg [1, 3, 4, 6, 8, 9] (mDrop (mMut 7 fAppend (mCons (fzO (mTup (mCons (mVar 8) (mCons (fzO (mOp dAdd (mC (.int 1)) (mCallB 0 f__law_draw (mCons (mVar 0) (mCons (mVar 5) mNil))))) (mCons (fzO (mCB (f1 dTuple) (mCons (fzO (mLc (mIAny (mVar 9)) (mGName 11) [11] mYes _law_web_ce4)) mNil))) mNil))))) mNil))))
noncomputable def m__law_web : MS := (mSeq (mSet 2 (mCallB 0 f__law_names (mCons (mVar 0) (mCons (fzO (mOp dIx (fzO (mLst (mCons (fzO (mOp dAdd (mC (.int 1)) (mCallB 0 f__law_draw (mCons (mVar 0) (mCons (mVar 1) mNil))))) (mCons (mVar 1) mNil)))) (fzO (mCB (f1 dInt) (mCons (fzO (mOp dEq (mCallB 0 f__law_draw (mCons (mVar 0) (mCons (mC (.int 3)) mNil))) (mC (.int 0)))) mNil))))) mNil)))) (mSeq (mSetO 3 (mCB (f1 dLen) (mCons (mVar 2) mNil))) (mSeq (mSetO 4 (mLc (mIA rng1 (mCons (fzO (mOp dAdd (mC (.int 1)) (mCallB 0 f__law_draw (mCons (mVar 0) (mCons (fzO (mOp dIx (fzO (mLst (mCons (mC (.int 2)) (mCons (mC (.int 3)) (mCons (mC (.int 8)) mNil))))) (mCallB 0 f__law_draw (mCons (mVar 0) (mCons (mC (.int 3)) mNil))))) mNil))))) mNil)) (mGName 10) [10] mYes _law_web_ce1)) (mSeq (mIf (mTestO (mOp dEq (mCallB 0 f__law_draw (mCons (mVar 0) (mCons (mC (.int 3)) mNil))) (mC (.int 0)))) (mSetO 4 (mLst (mCons (fzO (mLc (mIA rng1 (mCons (mVar 3) mNil)) (mGName 10) [10] mYes _law_web_ce2)) (mCons (fzO (mLc (mIA rng1 (mCons (mVar 3) mNil)) (mGName 10) [10] mYes _law_web_ce3)) mNil)))) mNx) (mSeq (mSetO 5 (mOp dIx (fzO (mLst (mCons (mC (.int 1)) (mCons (mC (.int 3)) (mCons (mC (.int 99)) mNil))))) (mCallB 0 f__law_draw (mCons (mVar 0) (mCons (mC (.int 3)) mNil))))) (mSeq (mSet 6 (mCallB 0 f__law_names (mCons (mVar 0) (mCons (fzO (mCB (f1 dLen) (mCons (mVar 4) mNil))) mNil)))) (mSeq (mSetO 7 (mLst mNil)) (mSeq (mFor (mIFg [1, 3, 4, 6, 8, 9] (mIF zipI (mCons (mVar 6) (mCons (mVar 4) mNil)))) (mGTup 2 (mGCons (mGName 8) (mGCons (mGName 9) mGNil))) _law_web_fb1) (mRet (fzO (mTup (mCons (fzO (mCB (f1 dTupleP) (mCons (mVar 2) mNil))) (mCons (fzO (mCB (f1 dTuple) (mCons (mVar 7) mNil))) mNil)))))))))))))
noncomputable def f__law_web : List D → Option (D × D) := fnB 12 0 m__law_web
end BB

set_option Elab.async false
set_option linter.all false
set_option maxRecDepth 100000
set_option maxHeartbeats 4000000
namespace BB
open PySem L2 DL
/-! the deck of the family that draws by _law_draw (k21..k29, k35..k38) -/
def DkB (n : Nat) (d : D) : Prop := ∃ g m c : Int, d = .lst [.int g, .int m, .int c] ∧ 0 ≤ m ∧ m < 2000000000 ∧ 0 ≤ c ∧ c ≤ n
theorem DkB.mono {n m : Nat} {d : D} (h : DkB n d) (l : n ≤ m) : DkB m d := by
  obtain ⟨g, x, c, e, h1, h2, h3, h4⟩ := h
  exact ⟨g, x, c, e, h1, h2, h3, by omega⟩
theorem DkB.lst {n : Nat} {d : D} (h : DkB n d) : ∃ xs, d = .lst xs := by
  obtain ⟨g, x, c, e, _⟩ := h
  exact ⟨_, e⟩
/-- what has been shifted and added -/
def GrP (N i : Nat) (g : Int) : Prop := 0 ≤ g ∧ g.natAbs < 2 ^ (N + 206 * i)
theorem GrP.next {N i : Nat} {g a : Int} (h : GrP N i g) (ha : a.natAbs < 2 ^ N) (a0 : 0 ≤ a) : GrP N (i + 1) (g * 2 ^ 205 + a) := by
  obtain ⟨h0, h1⟩ := h
  have hp : (0 : Int) ≤ g * 2 ^ 205 := Int.mul_nonneg h0 (by decide)
  refine ⟨by omega, ?_⟩
  have e : (g * 2 ^ 205 + a).natAbs = g.natAbs * 2 ^ 205 + a.natAbs := by
    have e1 : ((g.natAbs * 2 ^ 205 : Nat) : Int) = g * 2 ^ 205 := by
      rw [Int.natCast_mul, Int.natAbs_of_nonneg h0]; rfl
    have e2 : ((a.natAbs : Nat) : Int) = a := Int.natAbs_of_nonneg a0
    omega
  rw [e]
  have p1 : g.natAbs * 2 ^ 205 < 2 ^ (N + 206 * i) * 2 ^ 205 := (Nat.mul_lt_mul_right (Nat.two_pow_pos 205)).mpr h1
  rw [← Nat.pow_add] at p1
  have p2 : 2 ^ N ≤ 2 ^ (N + 206 * i + 205) := Nat.pow_le_pow_right (by decide) (by omega)
  have p3 : 2 ^ (N + 206 * (i + 1)) = 2 ^ (N + 206 * i + 205) * 2 := by
    rw [show N + 206 * (i + 1) = N + 206 * i + 205 + 1 by omega, Nat.pow_succ]
  rw [p3]
  generalize 2 ^ (N + 206 * i + 205) = P at p1 p2 p3 ⊢
  generalize 2 ^ N = Q at p2 ha
  generalize g.natAbs * 2 ^ 205 = G at p1 ⊢
  omega
theorem GrP.mono {N i : Nat} {g : Int} (h : GrP N i g) : GrP N (i + 1) g := ⟨h.1, Nat.lt_of_lt_of_le h.2 (Nat.pow_le_pow_right (by decide) (by omega))⟩
structure DL0 (N i : Nat) (g m : Int) : Prop where
  gr : GrP N i g
  m0 : 0 ≤ m
  m1 : m < 2000000000
end BB

set_option Elab.async false
set_option linter.all false
set_option maxRecDepth 100000
set_option maxHeartbeats 4000000
namespace FC
open PySem L2 DL
/-! the deck of the families that take digits (k51..k55, k66..k70) -/
def DkF (n : Nat) (d : D) : Prop := ∃ (cs : List Int) (a s : Int), d = .nst [.mu (.lst (cs.map D.int)), .int a, .int s] ∧ 1 ≤ cs.length ∧ cs.length ≤ 100 ∧ 0 ≤ a ∧ a ≤ n ∧ 0 ≤ s ∧ s < 2147483647
theorem DkF.mono {n m : Nat} {d : D} (h : DkF n d) (l : n ≤ m) : DkF m d := by
  obtain ⟨cs, a, s, e, h1, h2, h3, h4, h5⟩ := h
  exact ⟨cs, a, s, e, h1, h2, h3, by omega, h5⟩
theorem DkF.nst {n : Nat} {d : D} (h : DkF n d) : ∃ xs, d = .nst xs := by
  obtain ⟨cs, a, s, e, _⟩ := h
  exact ⟨_, e⟩
theorem intsL_map : ∀ ns : List Int, intsL (ns.map D.int) = some ns
  | [] => rfl
  | n :: ns => by rw [List.map_cons]; unfold intsL; rw [intsL_map ns]; rfl
end FC

set_option Elab.async false
set_option linter.all false
set_option maxRecDepth 100000
set_option maxHeartbeats 4000000
namespace BB
open PySem L2 DL WA OR
def wordsL : List Nm := [[97], [98], [97, 98], [98, 97], [119, 101, 98], [98, 97, 99, 107], [110, 111, 119], [112, 97, 115, 116], [109, 101, 116], [114, 101, 115, 116], [110, 101, 118, 101, 114], [101, 110, 111, 117, 103, 104]]
def sg (b : Int) (k : Nat) : Nat := 97 + ((b + k) % 26).toNat
def nmB (al b : Int) (pre suf : Nm) (k : Nat) : Nm := if al = 0 then sg b k :: List.replicate (1 + k % 7) 113 else pre ++ sg b k :: suf
def spB (al b : Int) (pre suf : Nm) (k : Nat) : List Nm := (if al = 0 then wordsL else []) ++ (List.range k).map (nmB al b pre suf)
theorem er_map {α β : Type} (f : α → β) : ∀ (l : List α) (i : Nat), (l.map f).eraseIdx i = (l.eraseIdx i).map f
  | [], _ => by simp
  | a :: l, 0 => by simp
  | a :: l, i + 1 => by simp [er_map f l i]
structure LcL (n k : Nat) (acc : List D) (d : D) (cs : List Nat) : Prop where
  a : acc = cs.map fun c => D.str (T [c])
  l : cs.length = k
  c : ∀ c ∈ cs, IsLetter c
  dk : DkB (n + k) d
structure PopP (sp : List Nm) (n k : Nat) (acc : List D) (d : D) (left out : List Nm) : Prop where
  a : acc = txs out
  p : (out ++ left).Perm sp
  l : out.length = k
  dk : DkB (n + k) d
end BB

set_option Elab.async false
set_option linter.all false
set_option maxRecDepth 100000
set_option maxHeartbeats 4000000
namespace FC
open PySem L2 DL WA OR BB
structure PopF (sp : List Nm) (n k : Nat) (acc : List D) (d : D) (left out : List Nm) : Prop where
  a : acc = txs out
  p : (out ++ left).Perm sp
  l : out.length = k
  dk : DkF (n + k) d
structure LcF (n k : Nat) (acc : List D) (d : D) (cs : List Nat) : Prop where
  a : acc = cs.map fun c => D.str (T [c])
  l : cs.length = k
  c : ∀ c ∈ cs, IsLetter c
  dk : DkF (n + k) d
theorem pop_at {left : List Nm} {r : Int} (r0 : 0 ≤ r) (r1 : r < left.length) (rl : left.length ≤ 1000) {y : Nm} (y3 : left[r.toNat]? = some y) : fPopAt (.lst (txs left)) [.int r] = some (.str (T y), .lst (txs (left.eraseIdx r.toNat))) := by
  unfold fPopAt ixN
  have hb : -(2 ^ 63) ≤ r ∧ r < 2 ^ 63 := by omega
  simp only [if_pos hb, if_pos r0, txs_len, if_pos r1, Option.bind_some]
  simp [txs, y3, er_map]
structure NmF (many : Int) (n : Nat) (d : D) (f : List Nm) : Prop where
  nd : f.Nodup
  na : ∀ x ∈ f, NameL x
  l : (f.length : Int) ≤ many
  dk : DkF (n + 1 + 12 * f.length) d
end FC

set_option Elab.async false
set_option linter.all false
set_option maxRecDepth 100000
set_option maxHeartbeats 4000000
namespace KN
open PySem L2 DL WA LD LE OR
def menuL : List Nm := [[112], [113], [112, 112], [112, 113], [113, 112], [113, 113], [112, 112, 113], [112, 113, 112], [113, 112, 112], [112, 113, 113], [113, 112, 113], [113, 113, 112], [112, 113, 112, 113, 112, 113, 112, 113]]
def someL : List Nm := [[], [], [111, 110, 101], [122, 122], [98], [116, 105, 101], [112, 108, 97, 99, 101], [108, 101, 110, 103, 116, 104, 121]]
def insN (nm : Nm) (at_ c : Nat) : Nm := nm.take at_ ++ [c] ++ nm.drop at_
theorem ins_len (nm : Nm) (a c : Nat) : (insN nm a c).length = nm.length + 1 := by
  unfold insN
  rw [List.length_append, List.length_append, List.length_take, List.length_drop]
  simp only [List.length_singleton]
  omega
theorem ins_at (nm : Nm) (a c : Nat) : (insN nm a c)[min a nm.length]? = some c := by
  unfold insN
  rw [List.append_assoc, List.getElem?_append_right (by rw [List.length_take]; omega), List.length_take]
  simp
theorem ins_ne {nm nm' : Nm} {a c c' : Nat} (h : c ≠ c') : insN nm a c ≠ insN nm' a c' := fun e => by
  have l := congrArg List.length e
  rw [ins_len, ins_len] at l
  have p := ins_at nm a c
  have q := ins_at nm' a c'
  rw [e, show nm.length = nm'.length by omega] at p
  rw [p] at q
  exact h (Option.some.inj q)
theorem some_ok : ∀ x ∈ someL, x.length ≤ 7 ∧ ∀ c ∈ x, IsLetter c := by
  intro x hx
  unfold someL at hx
  simp only [List.mem_cons, List.not_mem_nil, or_false] at hx
  rcases hx with rfl | rfl | rfl | rfl | rfl | rfl | rfl | rfl <;> exact ⟨by decide, by simp [IsLetter]⟩
/-- a name that no drawn one is -/
def nowL : Nm := [110, 111, 119, 104, 101, 114, 101]
def NameN (x : Nm) : Prop := NameL x ∧ x ≠ nowL
theorem some6 : ∀ x ∈ someL, x.length ≠ 6 := by decide
theorem menu_now : ∀ x ∈ menuL, x ≠ nowL := by decide
theorem menu_ok : menuL.Nodup ∧ ∀ x ∈ menuL, NameL x := by
  refine ⟨by decide, fun x hx => ?_⟩
  unfold menuL at hx
  simp only [List.mem_cons, List.not_mem_nil, or_false] at hx
  rcases hx with rfl | rfl | rfl | rfl | rfl | rfl | rfl | rfl | rfl | rfl | rfl | rfl | rfl <;> exact ⟨by decide, by decide, by simp [IsLetter]⟩
def lt (first : Int) (j : Nat) : Nat := 97 + ((first + 5 * (j : Int)) % 26).toNat
theorem lt_ne {first : Int} {i j : Nat} (hi : i < 8) (hj : j < 8) (ne : i ≠ j) : lt first i ≠ lt first j := by
  unfold lt
  omega
structure NmI (first : Int) (a i : Nat) (out : List Nm) : Prop where
  l : out.length = i
  g : ∀ j, j < i → ∃ nm ∈ someL, out[j]? = some (insN nm a (lt first j))
theorem NmI.nodup {first : Int} {a i : Nat} {out : List Nm} (h : NmI first a i out) (h8 : i ≤ 8) : out.Nodup := by
  rw [List.nodup_iff_pairwise_ne, List.pairwise_iff_getElem]
  intro p q hp hq pq e
  obtain ⟨n1, _, e1⟩ := h.g p (by rw [← h.l]; exact hp)
  obtain ⟨n2, _, e2⟩ := h.g q (by rw [← h.l]; exact hq)
  rw [List.getElem?_eq_getElem hp] at e1
  rw [List.getElem?_eq_getElem hq] at e2
  have := h.l
  exact ins_ne (lt_ne (by omega) (by omega) (by omega)) ((Option.some.inj e1).symm.trans (e.trans (Option.some.inj e2)))
theorem NmI.name {first : Int} {a i : Nat} {out : List Nm} (h : NmI first a i out) : ∀ x ∈ out, NameL x := fun x hx => by
  obtain ⟨p, hp, rfl⟩ := List.getElem_of_mem hx
  obtain ⟨nm, hn, e⟩ := h.g p (by rw [← h.l]; exact hp)
  rw [List.getElem?_eq_getElem hp] at e
  rw [Option.some.inj e]
  obtain ⟨l7, lc⟩ := some_ok nm hn
  refine ⟨by rw [ins_len]; omega, by rw [ins_len]; omega, fun c hc => ?_⟩
  unfold insN at hc
  rcases List.mem_append.mp hc with z | z
  · rcases List.mem_append.mp z with y | y
    · exact lc c (List.mem_of_mem_take y)
    · rw [List.mem_singleton.mp y]
      unfold lt IsLetter
      omega
  · exact lc c (List.mem_of_mem_drop z)
theorem NmI.now {first : Int} {a i : Nat} {out : List Nm} (h : NmI first a i out) : ∀ x ∈ out, NameN x := fun x hx => ⟨h.name x hx, by
  obtain ⟨p, hp, rfl⟩ := List.getElem_of_mem hx
  obtain ⟨nm, hn, e⟩ := h.g p (by rw [← h.l]; exact hp)
  rw [List.getElem?_eq_getElem hp] at e
  rw [Option.some.inj e]
  intro z
  have := congrArg List.length z
  rw [ins_len] at this
  have n6 := some6 nm hn
  have : nowL.length = 7 := rfl
  omega⟩
theorem NmI.next {first : Int} {a i : Nat} {out : List Nm} (h : NmI first a i out) {nm : Nm} (hn : nm ∈ someL) : NmI first a (i + 1) (out ++ [insN nm a (lt first i)]) := by
  refine ⟨by rw [List.length_append, h.l]; rfl, fun j hj => ?_⟩
  by_cases c : j < i
  · obtain ⟨n1, m1, e1⟩ := h.g j c
    exact ⟨n1, m1, by rw [List.getElem?_append_left (by rw [h.l]; exact c)]; exact e1⟩
  · have : j = i := by omega
    subst this
    exact ⟨nm, hn, by rw [List.getElem?_append_right (by rw [h.l]; omega), h.l, Nat.sub_self]; rfl⟩
structure PopK (i : Nat) (acc : List D) (left out : List Nm) : Prop where
  a : acc = txs out
  p : (out ++ left).Perm menuL
  l : out.length = i
theorem names_specN (ns : List Int) (hl : ns.length ≤ 63) {start : Int} (s0 : 0 ≤ start) (s1 : start ≤ 10000) {many : Nat} (m8 : many ≤ 8) :
    Wp (f__law_names [.scr ns, .int start, .int (many : Nat)]) fun r => ∃ names, r = .tup (txs names) ∧ names.length = many ∧ names.Nodup ∧ ∀ x ∈ names, NameN x := by
  have hcap : cap = 1000000 := rfl
  obtain ⟨_, ef, first, rfl, f0, f1⟩ := number_spec ns hl (k := start) s0 (by omega)
  have tl : Str.ofString "abcdefghijklmnopqrstuvwxyz" = T lettersL := by decide +kernel
  have hL : lettersL.length ≤ 1000000 := by decide
  have w0 : Str.ofString "" = T [] := by decide +kernel
  have w1 : Str.ofString "one" = T [111, 110, 101] := by decide +kernel
  have w2 : Str.ofString "zz" = T [122, 122] := by decide +kernel
  have w3 : Str.ofString "b" = T [98] := by decide +kernel
  have w4 : Str.ofString "tie" = T [116, 105, 101] := by decide +kernel
  have w5 : Str.ofString "place" = T [112, 108, 97, 99, 101] := by decide +kernel
  have w6 : Str.ofString "lengthy" = T [108, 101, 110, 103, 116, 104, 121] := by decide +kernel
  have v1 : Str.ofString "p" = T [112] := by decide +kernel
  have v2 : Str.ofString "q" = T [113] := by decide +kernel
  have v3 : Str.ofString "pp" = T [112, 112] := by decide +kernel
  have v4 : Str.ofString "pq" = T [112, 113] := by decide +kernel
  have v5 : Str.ofString "qp" = T [113, 112] := by decide +kernel
  have v6 : Str.ofString "qq" = T [113, 113] := by decide +kernel
  have v7 : Str.ofString "ppq" = T [112, 112, 113] := by decide +kernel
  have v8 : Str.ofString "pqp" = T [112, 113, 112] := by decide +kernel
  have v9 : Str.ofString "qpp" = T [113, 112, 112] := by decide +kernel
  have v10 : Str.ofString "pqq" = T [112, 113, 113] := by decide +kernel
  have v11 : Str.ofString "qpq" = T [113, 112, 113] := by decide +kernel
  have v12 : Str.ofString "qqp" = T [113, 113, 112] := by decide +kernel
  have v13 : Str.ofString "pqpqpqpq" = T [112, 113, 112, 113, 112, 113, 112, 113] := by decide +kernel
  have so : [D.str (T []), .str (T []), .str (T [111, 110, 101]), .str (T [122, 122]), .str (T [98]), .str (T [116, 105, 101]), .str (T [112, 108, 97, 99, 101]), .str (T [108, 101, 110, 103, 116, 104, 121])] = txs someL := rfl
  have me : [D.str (T [112]), .str (T [113]), .str (T [112, 112]), .str (T [112, 113]), .str (T [113, 112]), .str (T [113, 113]), .str (T [112, 112, 113]), .str (T [112, 113, 112]), .str (T [113, 112, 112]), .str (T [112, 113, 113]), .str (T [113, 112, 113]), .str (T [113, 113, 112]), .str (T [112, 113, 112, 113, 112, 113, 112, 113])] = txs menuL := rfl
  have d1 : divOk first 26 = true := divOk64 (by omega)
  have d2 : divOk first 416 = true := divOk64 (by omega)
  have d3 : divOk first 208 = true := divOk64 (by omega)
  have M8 : ∀ x, modOk x 8 = true := fun x => modOk_of (by omega)
  have M4 : ∀ x, modOk x 4 = true := fun x => modOk_of (by omega)
  have M2 : ∀ x, modOk x 2 = true := fun x => modOk_of (by omega)
  have M26 : ∀ x, modOk x 26 = true := fun x => modOk_of (by omega)
  obtain ⟨a, ha⟩ : ∃ a : Nat, first / 26 % 8 = (a : Int) := ⟨(first / 26 % 8).toNat, by omega⟩
  have a8 : a < 8 := by omega
  have ls : someL.length ≤ 1000000 := by decide
  have lm : menuL.length ≤ 1000000 := by decide
  have mi : (many : Int) ≤ 1000000 := by omega
  have rg := rng1_n (n := many) (by omega)
  unfold f__law_names fnP m__law_names
  by_cases c : first / 416 % 4 = 3
  · simp -implicitDefEqProofs [en0, hcap, tl, w0, w1, w2, w3, w4, w5, w6, v1, v2, v3, v4, v5, v6, v7, v8, v9, v10, v11, v12, v13, so, me, ef, d1, d2, M8, M4, ha, c, ls, lm, rg, -rng1_eq]
    rw [if_pos (by omega)]
    simp -implicitDefEqProofs
    refine wp_lc (S := List Nm) (fun left => [(8, .ow false (.lst (txs left)))]) (fun i acc left => ∃ out, PopK i acc left out) menuL rfl ⟨[], rfl, List.Perm.refl _, rfl⟩ (fun i x acc left hx ⟨out, hP⟩ => ?_) (fun acc left ⟨out, hP⟩ => ?_)
    · have hi : i < many := by have := (List.getElem?_eq_some_iff.mp hx).1; simpa using this
      have xe : x = .int (i : Nat) := by
        rw [List.getElem?_map, List.getElem?_range hi] at hx
        exact (Option.some.inj hx).symm
      subst xe
      have ll := hP.p.length_eq
      have m13 : menuL.length = 13 := rfl
      rw [List.length_append, hP.l, m13] at ll
      obtain ⟨_, e3, r, rfl, r0, r1⟩ := number_spec ns hl (k := start + 1 + (i : Int)) (by omega) (by omega)
      have lp : 0 < (left.length : Int) := by omega
      obtain ⟨j, hj⟩ : ∃ j : Nat, r % (left.length : Int) = (j : Int) := ⟨(r % (left.length : Int)).toNat, by have := Int.emod_nonneg r (b := (left.length : Int)) (by omega); omega⟩
      have jl : j < left.length := by have := Int.emod_lt_of_pos r lp; omega
      have rm : modOk r (left.length : Int) = true := modOk_of lp
      have ep := FC.pop_at (left := left) (r := (j : Int)) (by omega) (by omega) (by omega) (y := left[j]) (by simp [jl])
      rw [Int.toNat_natCast] at ep
      have lc : ((txs left).length : Int) = (left.length : Int) := by simp [txs]
      have lc2 : (txs left).length ≤ 1000000 := by simp [txs]; omega
      obtain ⟨TL, hTL⟩ : ∃ z, z = txs left := ⟨_, rfl⟩
      rw [← hTL] at ep lc lc2 ⊢
      simp -implicitDefEqProofs [_law_names_ce1, e3, lc, lc2, rm, hj, ep, hcap]
      refine ⟨left.eraseIdx j, rfl, out ++ [left[j]], ?_, ?_, by rw [List.length_append, hP.l]; rfl⟩
      · rw [hP.a]; simp [txs]
      · show (out ++ [left[j]] ++ left.eraseIdx j).Perm _
        rw [List.append_assoc]
        exact (List.Perm.append_left out (WA.perm_pop (List.getElem?_eq_getElem jl))).trans hP.p
    · have hl2 := hP.l
      rw [List.length_map, List.length_range] at hl2
      have nd : (out ++ left).Nodup := hP.p.nodup_iff.mpr menu_ok.1
      simp -implicitDefEqProofs [hP.a]
      exact ⟨out, rfl, hl2, (List.nodup_append.mp nd).1, fun x hx => have m := hP.p.mem_iff.mp (List.mem_append_left _ hx); ⟨menu_ok.2 x m, menu_now x m⟩⟩
  · simp -implicitDefEqProofs [en0, hcap, tl, w0, w1, w2, w3, w4, w5, w6, v1, v2, v3, v4, v5, v6, v7, v8, v9, v10, v11, v12, v13, so, me, ef, d1, d2, M8, M4, ha, c, ls, lm, rg, -rng1_eq]
    refine wp_for (S := List Nm) (fun out => [(7, .ow false (.lst (txs out)))]) (fun i out => NmI first a i out) [] rfl ⟨rfl, fun j hj => by omega⟩ (fun i x out hx hP => ?_) (fun out hP => ?_)
    · have hi : i < many := by have := (List.getElem?_eq_some_iff.mp hx).1; simpa using this
      have xe : x = .int (i : Nat) := by
        rw [List.getElem?_map, List.getElem?_range hi] at hx
        exact (Option.some.inj hx).symm
      subst xe
      obtain ⟨b, hb, b0, b1⟩ : ∃ b : Int, b = first / 208 % 2 ∧ 0 ≤ b ∧ b ≤ 1 := ⟨_, rfl, by omega, by omega⟩
      have ib : 0 ≤ (i : Int) * b ∧ (i : Int) * b ≤ 8 := by
        rcases (show b = 0 ∨ b = 1 by omega) with z | z <;> rw [z] <;> omega
      have mb : mulOk (i : Int) b = true := mulOk64 (by omega) (by omega)
      obtain ⟨_, e3, r, rfl, r0, r1⟩ := number_spec ns hl (k := start + 1 + (i : Int) * b) (by omega) (by omega)
      have m0 : 0 ≤ r % 8 := by omega
      have m1 : r % 8 < 8 := by omega
      obtain ⟨nm, i1, _, i3⟩ := atI_some (xs := someL) m0 (by show r % 8 < ((8 : Nat) : Int); omega)
      have nmm := List.mem_of_getElem? i3
      have nl := (some_ok nm nmm).1
      have i1 := atI_txs i1
      have m5 : mulOk 5 (i : Int) = true := mulOk64 (by omega) (by omega)
      have at_ := letter_at (i := (first + 5 * (i : Int)) % 26) (by omega) (by omega)
      have lq : 97 + ((first + 5 * (i : Int)) % 26).toNat = lt first i := rfl
      rw [lq] at at_
      have ct := cut_take nm (k := (a : Int)) (by omega)
      have cd := cut_drop nm (k := (a : Int)) (by omega)
      rw [Int.toNat_natCast] at ct cd
      have ol := hP.l
      have lo : (txs out).length < 1000000 := by simp [txs]; omega
      have q4 : nm.length ≤ 1000000 := by omega
      have q5 : min a nm.length ≤ 999999 := by omega
      have q6 : min a nm.length + 1 + (nm.length - a) ≤ 1000000 := by omega
      have q1 : (nm.take a).length + 1 ≤ 1000000 := by rw [List.length_take]; omega
      have q2 : (nm.take a).length + 1 + (nm.drop a).length ≤ 1000000 := by rw [List.length_take, List.length_drop]; omega
      obtain ⟨TO, hTO⟩ : ∃ z, z = txs out := ⟨_, rfl⟩
      obtain ⟨TM, hTM⟩ : ∃ z, z = txs someL := ⟨_, rfl⟩
      rw [← hTO] at lo ⊢
      rw [← hTM] at i1 ⊢
      simp -implicitDefEqProofs [_law_names_fb1, d3, M2, ← hb, mb, e3, M8, i1, m5, M26, at_, ct, cd, T_one, hL, hcap, lo, q1, q2, q4, q5, q6]
      rw [hTO]
      exact ⟨out ++ [insN nm a (lt first i)], by unfold txs insN; simp, hP.next nmm⟩
    · simp only [List.length_map, List.length_range] at hP
      simp -implicitDefEqProofs
      exact ⟨out, rfl, hP.l, hP.nodup m8, hP.now⟩
end KN

set_option Elab.async false
set_option linter.all false
set_option maxRecDepth 100000
namespace CC
open PySem L2 DL
noncomputable def m__law_draw : MS := (mSeq (mStore 0 (fzO (mOp dAdd (fzO (mOp dIx (mVar 0) (mC (.int 2)))) (mC (.int 1)))) (mC (.int 2))) (mSeq (mIf (mAnd (mTestO (mOp dEq (fzO (mOp dIx (mVar 0) (mC (.int 1)))) (mC (.int 1)))) (mTestO (mOp dGt (fzO (mOp dIx (mVar 0) (mC (.int 0)))) (mC (.int 0))))) (mSeq (mSetO 3 (mOp dMod (fzO (mOp dIx (mVar 0) (mC (.int 0)))) (mVar 1))) (mSeq (mStore 0 (fzO (mOp dDiv (fzO (mOp dIx (mVar 0) (mC (.int 0)))) (mVar 1))) (mC (.int 0))) (mRet (mVar 3)))) mNx) (mSeq (mSetO 2 (mOp dMod (fzO (mOp dMulT (fzO (mOp dAdd (fzO (mOp dAdd (fzO (mOp dIx (mVar 0) (mC (.int 3)))) (fzO (mOp dMulT (mC (.int 6997)) (fzO (mOp dIx (mVar 0) (mC (.int 2)))))))) (mC (.int 11)))) (mC (.int 48271)))) (mC (.int 2147483647)))) (mSeq (mSetO 2 (mOp dMod (fzO (mOp dMulT (fzO (mOp dMod (fzO (mOp dMulT (mVar 2) (mVar 2))) (mC (.int 2147483629)))) (mC (.int 40692)))) (mC (.int 2147483399)))) (mRet (fzO (mOp dMod (fzO (mOp dDiv (mVar 2) (mC (.int 7)))) (mVar 1))))))))
noncomputable def f__law_draw : List D → Option (D × D) := fnB 4 0 m__law_draw
noncomputable def _law_names_ce1 : ME := (fzO (mOp dIx (mVar 2) (mCallB 0 f__law_draw (mCons (mVar 0) (mCons (mC (.int 26)) mNil)))))
noncomputable def _law_names_wc1 : MT := (mTestO (mOp dLt (fzO (mCB (f1 dLen) (mCons (mVar 3) mNil))) (mVar 1)))
noncomputable def _law_names_wb1 : MS := (mFg [5, 6, 7] (mSeq (mSetO 4 (mOp dAdd (mVar 4) (mC (.int 1)))) (mSeq (mSetO 5 (mM1 dJoin (mC (.str "")) (fzO (mLc (mIA rng1 (mCons (fzO (mOp dAdd (mC (.int 1)) (mCallB 0 f__law_draw (mCons (mVar 0) (mCons (mC (.int 8)) mNil))))) mNil)) (mGName 8) [8] mYes _law_names_ce1)))) (mSeq (mIf (mAnd (mTestO (mOp dNe (mVar 3) (fzO (mLst mNil)))) (mTestO (mOp dEq (mCallB 0 f__law_draw (mCons (mVar 0) (mCons (mC (.int 2)) mNil))) (mC (.int 0))))) (mSeq (mSetO 6 (mOp dIx (mVar 3) (mCallB 0 f__law_draw (mCons (mVar 0) (mCons (fzO (mCB (f1 dLen) (mCons (mVar 3) mNil))) mNil))))) (mSeq (mSet 7 (mCallB 0 f__law_draw (mCons (mVar 0) (mCons (fzO (mCB (f1 dLen) (mCons (mVar 6) mNil))) mNil)))) (mSetO 5 (mOp dAdd (fzO (mOp dAdd (fzO (mSl (mVar 6) mNoP (mP (mVar 7)))) (fzO (mOp dIx (mVar 2) (mCallB 0 f__law_draw (mCons (mVar 0) (mCons (mC (.int 26)) mNil))))))) (fzO (mSl (mVar 6) (mP (fzO (mOp dAdd (mVar 7) (mC (.int 1))))) mNoP)))))) mNx) (mSeq (mIf (mTestO (mOp dGt (mVar 4) (mC (.int 60)))) (mSetO 5 (mOp dAdd (fzO (mOp dAdd (fzO (mOp dAdd (fzO (mOp dIx (mVar 2) (fzO (mOp dMod (mVar 4) (mC (.int 26)))))) (mC (.str "q")))) (fzO (mOp dIx (mVar 2) (fzO (mOp dMod (fzO (mOp dDiv (mVar 4) (mC (.int 26)))) (mC (.int 26)))))))) (mC (.str "jx")))) mNx) (mIf (mTestO (mOp dNotIn (mVar 5) (mVar 3))) (mDrop (mMut 3 fAppend (mCons (mVar 5) mNil))) mNx))))))
noncomputable def m__law_names : MS := (mSeq (mSet 2 (mC (.str "abcdefghijklmnopqrstuvwxyz"))) (mSeq (mSetO 3 (mSl (fzO (mSl (fzO (mLst (mCons (mC (.str "web")) (mCons (mC (.str "met")) (mCons (mC (.str "a")) (mCons (mC (.str "ab")) (mCons (mC (.str "ba")) (mCons (mC (.str "show")) mNil)))))))) mNoP (mP (mCallB 0 f__law_draw (mCons (mVar 0) (mCons (mC (.int 7)) mNil)))))) mNoP (mP (mVar 1)))) (mSeq (mSet 4 (mC (.int 0))) (mSeq (mFg0 [5, 6, 7] (mWhile _law_names_wc1 _law_names_wb1)) (mRet (mVar 3))))))
noncomputable def f__law_names : List D → Option (D × D) := fnB 9 0 m__law_names
noncomputable def _law_images_fb1 : MS := (mFg [2, 8, 9, 10, 11, 12] (mSeq (mSet 9 (mCallB 0 f__law_draw (mCons (mVar 0) (mCons (mVar 1) mNil)))) (mSeq (mSetO 10 (mOp dIx (fzO (mLst (mCons (fzO (mOp dAdd (mVar 6) (fzO (mOp dMod (mVar 9) (fzO (mCB (f2 dMax2) (mCons (mC (.int 1)) (mCons (fzO (mOp dSub (mVar 1) (mVar 6))) mNil)))))))) (mCons (fzO (mOp dMod (mVar 9) (mVar 6))) mNil)))) (fzO (mCB (f1 dInt) (mCons (fzO (mOp dLt (mVar 8) (mVar 6))) mNil))))) (mSeq (mSet 11 (mVar 8)) (mSeq (mIf (mTestO (mOp dIn (mVar 8) (fzO (mTup (mCons (mVar 4) (mCons (mVar 5) mNil)))))) (mSetO 11 (mOp dSub (fzO (mOp dAdd (mVar 4) (mVar 5))) (mVar 8))) mNx) (mSeq (mSetO 12 (mLst (mCons (mVar 9) (mCons (mVar 4) (mCons (mVar 8) (mCons (fzO (mOp dMod (fzO (mOp dAdd (fzO (mOp dAdd (mVar 8) (mC (.int 1)))) (mVar 4))) (mVar 1))) (mCons (fzO (mCB (f2 dMin2) (mCons (fzO (mOp dAdd (mVar 8) (mC (.int 1)))) (mCons (fzO (mOp dSub (mVar 1) (mC (.int 1)))) mNil)))) (mCons (mVar 10) (mCons (fzO (mCB (f2 dMax2) (mCons (fzO (mOp dSub (mVar 8) (mC (.int 1)))) (mCons (mC (.int 0)) mNil)))) (mCons (mVar 11) mNil)))))))))) (mDrop (mMut 7 fAppend (mCons (fzO (mOp dIx (mVar 12) (mVar 3))) mNil)))))))))
noncomputable def m__law_images : MS := (mSeq (mSetO 3 (mOp dIx (fzO (mLst (mCons (mCallB 0 f__law_draw (mCons (mVar 0) (mCons (mC (.int 8)) mNil))) (mCons (mC (.int 0)) (mCons (mC (.int 5)) (mCons (mC (.int 3)) (mCons (mC (.int 4)) mNil))))))) (mVar 2))) (mSeq (mSet 4 (mCallB 0 f__law_draw (mCons (mVar 0) (mCons (mVar 1) mNil)))) (mSeq (mSet 5 (mCallB 0 f__law_draw (mCons (mVar 0) (mCons (mVar 1) mNil)))) (mSeq (mSetO 6 (mCB (f2 dMax2) (mCons (mC (.int 1)) (mCons (fzO (mOp dDiv (mVar 1) (mC (.int 2)))) mNil)))) (mSeq (mSetO 7 (mLst mNil)) (mSeq (mFor (mIFg [2, 8, 9, 10, 11, 12] (mIA rng1 (mCons (mVar 1) mNil))) (mGName 8) _law_images_fb1) (mRet (mVar 7))))))))
noncomputable def f__law_images : List D → Option (D × D) := fnB 13 0 m__law_images
noncomputable def _law_web_ce1 : ME := (fzO (mOp dIx (mVar 3) (mVar 11)))
noncomputable def _law_web_fb1 : MS := (mFg [1, 4, 8, 9, 10] (mSeq (mSetO 9 (mOp dAdd (mC (.int 1)) (mCallB 0 f__law_draw (mCons (mVar 0) (mCons (mVar 6) mNil))))) (mSeq (mIf (mTestO (mOp dEq (mVar 6) (mC (.int 2)))) (mSetO 9 (mOp dIx (fzO (mLst (mCons (mC (.int 1)) (mCons (mC (.int 99)) mNil)))) (fzO (mOp dSub (mVar 9) (mC (.int 1)))))) mNx) (mSeq (mSet 10 (mCallB 0 f__law_images (mCons (mVar 0) (mCons (mVar 2) (mCons (mVar 5) mNil))))) (mDrop (mMut 7 fAppend (mCons (fzO (mTup (mCons (mVar 8) (mCons (mVar 9) (mCons (fzO (mCB (f1 dTuple) (mCons (fzO (mLc (mIAny (mVar 10)) (mGName 11) [11] mYes _law_web_ce1)) mNil))) mNil))))) mNil)))))))
noncomputable def m__law_web : MS := (mSeq (mSetO 2 (mOp dIx (fzO (mLst (mCons (fzO (mOp dAdd (mC (.int 1)) (mCallB 0 f__law_draw (mCons (mVar 0) (mCons (mC (.int 4)) mNil))))) (mCons (fzO (mOp dAdd (mC (.int 1)) (mCallB 0 f__law_draw (mCons (mVar 0) (mCons (mVar 1) mNil))))) (mCons (mVar 1) mNil))))) (mCallB 0 f__law_draw (mCons (mVar 0) (mCons (mC (.int 3)) mNil))))) (mSeq (mSetO 2 (mCB (f2 dMin2) (mCons (mVar 2) (mCons (mVar 1) mNil)))) (mSeq (mSet 3 (mCallB 0 f__law_names (mCons (mVar 0) (mCons (mVar 2) mNil)))) (mSeq (mSetO 4 (mOp dIx (fzO (mLst (mCons (fzO (mOp dAdd (mC (.int 1)) (mCallB 0 f__law_draw (mCons (mVar 0) (mCons (mC (.int 3)) mNil))))) (mCons (fzO (mOp dAdd (mC (.int 1)) (mCallB 0 f__law_draw (mCons (mVar 0) (mCons (mC (.int 8)) mNil))))) (mCons (mC (.int 8)) mNil))))) (mCallB 0 f__law_draw (mCons (mVar 0) (mCons (mC (.int 3)) mNil))))) (mSeq (mSetO 5 (mOp dIx (fzO (mLst (mCons (mC (.int 0)) (mCons (mC (.int 0)) (mCons (mC (.int 0)) (mCons (mC (.int 1)) (mCons (mC (.int 2)) (mCons (mC (.int 3)) (mCons (mC (.int 4)) mNil))))))))) (mCallB 0 f__law_draw (mCons (mVar 0) (mCons (mC (.int 7)) mNil))))) (mSeq (mSetO 6 (mOp dIx (fzO (mLst (mCons (mC (.int 1)) (mCons (mC (.int 9)) (mCons (mC (.int 99)) (mCons (mC (.int 2)) mNil)))))) (mCallB 0 f__law_draw (mCons (mVar 0) (mCons (mC (.int 4)) mNil))))) (mSeq (mSetO 7 (mLst mNil)) (mSeq (mFor (mIFg [1, 4, 8, 9, 10] (mIAny (mCallB 0 f__law_names (mCons (mVar 0) (mCons (mVar 4) mNil))))) (mGName 8) _law_web_fb1) (mRet (fzO (mTup (mCons (fzO (mCB (f1 dTupleP) (mCons (mVar 3) mNil))) (mCons (fzO (mCB (f1 dTuple) (mCons (mVar 7) mNil))) mNil)))))))))))))
noncomputable def f__law_web : List D → Option (D × D) := fnB 12 0 m__law_web
end CC

set_option Elab.async false
set_option linter.all false
set_option maxRecDepth 100000
set_option maxHeartbeats 4000000
namespace CC
open PySem L2 DL
/-- a seed that was drawn from at most n times -/
def DkC (n : Nat) (d : D) : Prop := ∃ g f c m : Int, d = .lst [.int g, .int f, .int c, .int m] ∧ 0 ≤ m ∧ m < 2000000000 ∧ 0 ≤ c ∧ c ≤ n
theorem DkC.mono {n m : Nat} {d : D} (h : DkC n d) (l : n ≤ m) : DkC m d := by
  obtain ⟨g, f, c, k, e, a, b, c0, c1⟩ := h
  exact ⟨g, f, c, k, e, a, b, c0, by omega⟩
theorem DkC.lst {n : Nat} {d : D} (h : DkC n d) : ∃ xs, d = .lst xs := by
  obtain ⟨g, f, c, k, e, _⟩ := h
  exact ⟨_, e⟩
end CC

set_option Elab.async false
set_option linter.all false
set_option maxRecDepth 100000
set_option maxHeartbeats 4000000
namespace CC
open PySem L2 DL WA LD LE OR
def wq (t : Nat) : Nm := [97 + t % 26, 113, 97 + t / 26 % 26, 106, 120]
theorem wq_inj {s t : Nat} (h : wq s = wq t) (h1 : s < t + 26) (h2 : t < s + 26) : s = t := by
  simp [wq] at h
  omega
structure LtC (n k : Nat) (acc : List D) (d : D) (cs : List Nat) : Prop where
  a : acc = cs.map fun c => D.str (T [c])
  l : cs.length = k
  c : ∀ c ∈ cs, IsLetter c
  dk : DkC (n + k) d
structure NmI (many n turn : Nat) (d : D) (f : List Nm) : Prop where
  nd : f.Nodup
  na : ∀ x ∈ f, NameL x
  ln : f.length ≤ many
  wd : ∀ t, 60 < t → t ≤ turn → wq t ∈ f
  dk : DkC (n + 16 * turn) d
theorem NmI.le {many n turn : Nat} {d : D} {f : List Nm} (h : NmI many n turn d f) (hm : many ≤ 10) : turn ≤ 60 + f.length := by
  rcases Nat.lt_or_ge 60 turn with c | c
  · have nd : ((List.range (min (turn - 60) 20)).map fun k => wq (61 + k)).Nodup := by
      rw [List.nodup_iff_pairwise_ne, List.pairwise_map]
      refine List.Pairwise.imp_of_mem (fun {a b} ha hb hne e => ?_) List.nodup_range
      have h1 := List.mem_range.mp ha
      have h2 := List.mem_range.mp hb
      have := wq_inj e (by omega) (by omega)
      exact hne (by omega)
    have := nodup_le nd fun x hx => by
      obtain ⟨k, hk, rfl⟩ := List.mem_map.mp hx
      have := List.mem_range.mp hk
      exact h.wd _ (by omega) (by omega)
    simp at this
    have := h.ln
    omega
  · omega
end CC

set_option Elab.async false
set_option linter.all false
set_option maxRecDepth 100000
set_option maxHeartbeats 4000000
namespace KN
open PySem L2 DL WA LD LE OR
theorem notIn_tup (x : Nm) (f : List Nm) : dNotIn (.str (T x)) (.tup (txs f)) = some (.val (.bl (!decide (x ∈ f)))) := by
  have fl : (txs f).all flatD = true := by unfold txs; rw [List.all_map, List.all_eq_true]; intro b _; rfl
  have : inFlat (.str (T x)) (.tup (txs f)) = some (decide (x ∈ f)) := by
    show (if flatD (.str (T x)) = true ∧ (txs f).all flatD = true then some ((txs f).any fun z => eqD z (.str (T x))) else none) = _
    rw [if_pos ⟨rfl, fl⟩]
    congr 1
    unfold txs
    rw [List.any_map, Bool.eq_iff_iff, List.any_eq_true, decide_eq_true_iff]
    constructor
    · rintro ⟨y, hy, e⟩
      have : y = x := by simpa [eqD, toPy, PyData.eqv, T_inj] using e
      exact this ▸ hy
    · intro h
      exact ⟨x, h, by simp [eqD, toPy, PyData.eqv]⟩
  unfold dNotIn dInB
  rw [this]
  rfl
structure ImK (S ims : List Nm) (i : Nat) : Prop where
  l : ims.length = i
  m : ∀ x ∈ ims, x ∈ S
structure MvK (S names : List Nm) (moves : List MoveL) (k : Nat) : Prop where
  n : moves.map MoveL.name = names.take k
  o : ∀ m ∈ moves, 1 ≤ m.weight ∧ m.weight ≤ 99 ∧ m.images.length = S.length ∧ ∀ x ∈ m.images, x ∈ S
theorem enum_at {names : List Nm} {k : Nat} {x : D} (h : (enumD (txs names))[k]? = some x) : ∃ nm, names[k]? = some nm ∧ x = .tup [.int (k : Nat), .str (T nm)] := by
  rw [enumD_eq, List.getElem?_map, List.getElem?_zipIdx] at h
  unfold txs at h
  rw [List.getElem?_map] at h
  cases q : names[k]? with
  | none => rw [q] at h; cases h
  | some nm =>
    rw [q] at h
    exact ⟨nm, rfl, by simpa using h.symm⟩
theorem enum_len (names : List Nm) : (enumD (txs names)).length = names.length := by
  rw [enumD_eq]
  simp [txs]
theorem place_ok {N : Nat} (N1 : 1 ≤ N) {draw number kind : Int} {j : Nat} (hj : j < N) (hk : 0 ≤ kind ∧ kind < 6) (d0 : 0 ≤ draw) (n0 : 0 ≤ number) :
    ∃ to : Int, L2.atI [D.int (draw % (N : Int)), .int (draw % (if (N : Int) < 2 then (N : Int) else 2)), .int (((j : Int) + number / 7) % (N : Int)), .int (j : Nat), .int (if 1 < (j : Int) then (j : Int) - 1 else 0), .int (draw % (N : Int))] kind = some (.int to) ∧ 0 ≤ to ∧ to < N := by
  have e1 : 0 ≤ draw % (N : Int) ∧ draw % (N : Int) < N := ⟨Int.emod_nonneg _ (by omega), Int.emod_lt_of_pos _ (by omega)⟩
  have e2 : 0 ≤ draw % (if (N : Int) < 2 then (N : Int) else 2) ∧ draw % (if (N : Int) < 2 then (N : Int) else 2) < N := by
    split
    · exact e1
    · omega
  have e3 : 0 ≤ ((j : Int) + number / 7) % (N : Int) ∧ ((j : Int) + number / 7) % (N : Int) < N := ⟨Int.emod_nonneg _ (by omega), Int.emod_lt_of_pos _ (by omega)⟩
  rcases (show kind = 0 ∨ kind = 1 ∨ kind = 2 ∨ kind = 3 ∨ kind = 4 ∨ kind = 5 by omega) with z | z | z | z | z | z <;> subst z
  · exact ⟨_, rfl, e1.1, e1.2⟩
  · exact ⟨_, rfl, e2.1, e2.2⟩
  · exact ⟨_, rfl, e3.1, e3.2⟩
  · exact ⟨_, rfl, by omega, by omega⟩
  · exact ⟨_, rfl, by split <;> omega, by split <;> omega⟩
  · exact ⟨_, rfl, e1.1, e1.2⟩
structure Dd (l out : List Nm) (i : Nat) : Prop where
  n : out.Nodup
  m : ∀ x, x ∈ out ↔ x ∈ l.take i
theorem web_specN (ns : List Int) (hl : ns.length ≤ 63) {start : Int} (s0 : 0 ≤ start) (s1 : start ≤ 1000) {most moves : Nat} (m1 : 1 ≤ most) (m8 : most ≤ 8) (v1 : 1 ≤ moves) (v8 : moves ≤ 8) :
    Wp (f__law_web [.scr ns, .int start, .int (most : Nat), .int (moves : Nat)]) fun r => ∃ S M, r = webD S M ∧ WebOk 8 S M ∧ S.length ≤ most ∧ M.length ≤ moves ∧ ∀ x ∈ M.map MoveL.name, x ≠ nowL := by
  have hcap : cap = 1000000 := rfl
  obtain ⟨_, e0, head, rfl, h0, h1⟩ := number_spec ns hl (k := start) s0 (by omega)
  have hm : modOk head (most : Int) = true := modOk_of (by omega)
  obtain ⟨N, hN, N1, N2⟩ : ∃ N : Nat, 1 + head % (most : Int) = (N : Int) ∧ 1 ≤ N ∧ N ≤ most := by
    have a := Int.emod_nonneg head (b := (most : Int)) (by omega)
    have b := Int.emod_lt_of_pos head (b := (most : Int)) (by omega)
    exact ⟨(1 + head % (most : Int)).toNat, by omega, by omega, by omega⟩
  have d8 : divOk head 8 = true := divOk64 (by omega)
  have d64 : divOk head 64 = true := divOk64 (by omega)
  have hm2 : modOk (head / 8) (moves : Int) = true := modOk_of (by omega)
  obtain ⟨V, hV, V1, V2⟩ : ∃ V : Nat, 1 + head / 8 % (moves : Int) = (V : Int) ∧ 1 ≤ V ∧ V ≤ moves := by
    have a := Int.emod_nonneg (head / 8) (b := (moves : Int)) (by omega)
    have b := Int.emod_lt_of_pos (head / 8) (b := (moves : Int)) (by omega)
    exact ⟨(1 + head / 8 % (moves : Int)).toNat, by omega, by omega, by omega⟩
  obtain ⟨_, e1, S, rfl, sl, snd, sna⟩ := names_specN ns hl (start := start + 1) (by omega) (by omega) (many := N) (by omega)
  obtain ⟨_, e2, Nn, rfl, nl, nnd, nna⟩ := names_specN ns hl (start := start + 12) (by omega) (by omega) (many := V) (by omega)
  have M4 : ∀ x, modOk x 4 = true := fun x => modOk_of (by omega)
  have tl : ∀ l : List Nm, (txs l).length = l.length := fun l => by simp [txs]
  -- the moves, by their names
  have go : ∀ names : List Nm, names.Nodup → (∀ x ∈ names, NameN x) → 1 ≤ names.length → names.length ≤ moves → Wp (forL (mGTup 2 (mGCons (mGName 9) (mGCons (mGName 10) mGNil))) _law_web_fb2 (enumD (txs names)) [some (.fz (.scr ns)), some (.fz (.int start)), none, none, none, some (.fz (.int (N : Nat))), some (.fz (.tup (txs S))), none, some (.ow false (.lst [])), none, none, none, none, none, none, none, none, none, none, none]) fun o => ∃ M ρ, o = .nx ρ ∧ ρ = [some (.fz (.scr ns)), some (.fz (.int start)), none, none, none, some (.fz (.int (N : Nat))), some (.fz (.tup (txs S))), none, some (.ow false (.lst (M.map MoveL.D))), none, none, none, none, none, none, none, none, none, none, none] ∧ MvK S names M names.length := by
    intro names nd na l1 l2
    have rg := rng1_n (n := N) (by omega)
    have N63 : (N : Int) ≤ 1000000 := by omega
    have mN : ∀ x, modOk x (N : Int) = true := fun x => modOk_of (by omega)
    refine wp_for (S := List MoveL) (fun M => [(8, .ow false (.lst (M.map MoveL.D)))]) (fun k M => MvK S names M k) [] rfl ⟨rfl, fun m hm => by cases hm⟩ (fun k x M hx hP => ?_) (fun M hP => ?_)
    · obtain ⟨nm, hnm, rfl⟩ := enum_at hx
      have hk : k < names.length := (List.getElem?_eq_some_iff.mp hnm).1
      obtain ⟨_, f1, number, rfl, n0, n1⟩ := number_spec ns hl (k := start + 25 + (k : Int)) (by omega) (by omega)
      have M6 : modOk number 6 = true := modOk_of (by omega)
      have D6 : divOk number 6 = true := divOk64 (by omega)
      have D7 : divOk number 7 = true := divOk64 (by omega)
      have D600 : divOk number 600 = true := divOk64 (by omega)
      have M5 : modOk (number / 6) 5 = true := modOk_of (by omega)
      have M99 : modOk (number / 6) 99 = true := modOk_of (by omega)
      have M3 : modOk (number / 600) 3 = true := modOk_of (by omega)
      obtain ⟨kind, hkind, k0, k1⟩ : ∃ kind, number % 6 = kind ∧ 0 ≤ kind ∧ kind < 6 := ⟨_, rfl, by omega, by omega⟩
      obtain ⟨w, hw, w1, w99⟩ : ∃ w : Int, L2.atI [D.int 1, .int (1 + number / 6 % 5), .int (1 + number / 6 % 99)] (number / 600 % 3) = some (.int w) ∧ 1 ≤ w ∧ w ≤ 99 := by
        rcases (show number / 600 % 3 = 0 ∨ number / 600 % 3 = 1 ∨ number / 600 % 3 = 2 by omega) with z | z | z <;> rw [z]
        · exact ⟨1, rfl, by omega, by omega⟩
        · exact ⟨_, rfl, by omega, by omega⟩
        · exact ⟨_, rfl, by omega, by omega⟩
      have m8k : mulOk 8 (k : Int) = true := mulOk64 (by omega) (by omega)
      unfold _law_web_fb2
      simp -implicitDefEqProofs [f1, M6, hkind, D6, D600, M5, M99, M3, hw, hcap, rg, -rng1_eq]
      refine wp_for (S := List Nm) (fun ims => [(14, .ow false (.lst (txs ims)))]) (fun j ims => ImK S ims j) [] rfl ⟨rfl, fun x hx => by cases hx⟩ (fun j x ims hx hI => ?_) (fun ims hI => ?_)
      · have hj : j < N := by have := (List.getElem?_eq_some_iff.mp hx).1; simpa using this
        have xe : x = .int (j : Nat) := by
          rw [List.getElem?_map, List.getElem?_range hj] at hx
          exact (Option.some.inj hx).symm
        subst xe
        obtain ⟨_, f2, draw, rfl, d0, d1⟩ := number_spec ns hl (k := start + 35 + 8 * (k : Int) + (j : Int)) (by omega) (by omega)
        obtain ⟨to, hto, t0, t1⟩ := place_ok N1 hj ⟨k0, k1⟩ d0 n0
        have mn2 : 0 < (if (N : Int) < 2 then (N : Int) else 2) := by split <;> omega
        have M2 : modOk draw (if (N : Int) < 2 then (N : Int) else 2) = true := modOk_of mn2
        have il := hI.l
        have lti : ((txs ims).length : Nat) < 1000000 := by rw [tl, il]; omega
        obtain ⟨to2, hto2, q0, q1⟩ : ∃ to2 : Int, (if kind = 3 ∧ (j : Int) = number / 6 % (N : Int) then draw % (N : Int) else to) = to2 ∧ 0 ≤ to2 ∧ to2 < N := by
          have e1 : 0 ≤ draw % (N : Int) ∧ draw % (N : Int) < N := ⟨Int.emod_nonneg _ (by omega), Int.emod_lt_of_pos _ (by omega)⟩
          refine ⟨_, rfl, ?_, ?_⟩ <;> split <;> omega
        obtain ⟨y, y1, _, y3⟩ := atI_some (xs := S) q0 (by rw [sl]; exact q1)
        have y1 := atI_txs y1
        have ym := List.mem_of_getElem? y3
        obtain ⟨TI, hTI⟩ : ∃ z, z = txs ims := ⟨_, rfl⟩
        obtain ⟨TS, hTS⟩ : ∃ z, z = txs S := ⟨_, rfl⟩
        rw [← hTI] at lti ⊢
        rw [← hTS] at y1 ⊢
        have fin : ∃ s, TI ++ [.str (T y)] = txs s ∧ ImK S s (j + 1) := by
          rw [hTI]
          refine ⟨ims ++ [y], by simp [txs], by rw [List.length_append, il]; rfl, fun z hz => ?_⟩
          rcases List.mem_append.mp hz with q | q
          · exact hI.m z q
          · rw [List.mem_singleton.mp q]; exact ym
        unfold _law_web_fb1
        by_cases c3 : kind = 3 ∧ (j : Int) = number / 6 % (N : Int)
        · rw [if_pos c3] at hto2
          simp -implicitDefEqProofs [m8k, f2, mN, D7, M2, hto, D6, hcap]
          rw [if_pos c3.1]
          simp -implicitDefEqProofs [decide_eq_true c3.2, mN, hto2, y1, lti, hcap]
          exact fin
        · rw [if_neg c3] at hto2
          subst hto2
          simp -implicitDefEqProofs [m8k, f2, mN, D7, M2, hto, D6, hcap]
          by_cases c4 : kind = 3
          · have c5 : ¬ (j : Int) = number / 6 % (N : Int) := fun z => c3 ⟨c4, z⟩
            rw [if_pos c4]
            simp -implicitDefEqProofs [decide_eq_false c5, y1, lti, hcap]
            exact fin
          · rw [if_neg c4]
            simp -implicitDefEqProofs [y1, lti, hcap]
            exact fin
      · simp only [List.length_map, List.length_range] at hI
        have il := hI.l
        have lI : (txs ims).length ≤ 1000000 := by rw [tl, il]; omega
        have Ml : M.length = k := by
          have := congrArg List.length hP.n
          rw [List.length_map, List.length_take] at this
          omega
        have lM : (M.map MoveL.D).length < 1000000 := by rw [List.length_map]; omega
        obtain ⟨TI, hTI⟩ : ∃ z, z = txs ims := ⟨_, rfl⟩
        obtain ⟨MD, hMD⟩ : ∃ z, z = M.map MoveL.D := ⟨_, rfl⟩
        rw [← hTI] at lI ⊢
        rw [← hMD] at lM ⊢
        simp -implicitDefEqProofs [lI, lM, hcap]
        refine ⟨M ++ [⟨nm, w, ims⟩], by rw [hTI, hMD, List.map_append]; rfl, ?_, fun m hm => ?_⟩
        · rw [List.map_append, hP.n]
          have := (List.getElem?_eq_some_iff.mp hnm).2
          show _ ++ [nm] = _
          rw [← this]
          exact List.take_append_getElem hk
        · rcases List.mem_append.mp hm with q | q
          · exact hP.o m q
          · rw [List.mem_singleton.mp q]
            exact ⟨w1, w99, by rw [sl]; exact il, hI.m⟩
    · rw [enum_len] at hP
      exact ⟨M, _, rfl, rfl, hP⟩
  have fin : ∀ {names : List Nm} {M : List MoveL}, names.Nodup → (∀ x ∈ names, NameN x) → 1 ≤ names.length → names.length ≤ moves → MvK S names M names.length → WebOk 8 S M ∧ S.length ≤ most ∧ M.length ≤ moves ∧ ∀ x ∈ M.map MoveL.name, x ≠ nowL := fun {names M} nd na l1 l2 hP => by
    have e := hP.n
    rw [List.take_length] at e
    have Ml := congrArg List.length e
    rw [List.length_map] at Ml
    refine ⟨⟨by omega, by omega, snd, fun x hx => (sna x hx).1, by omega, by omega, by rw [e]; exact nd, fun m hm => ?_⟩, by omega, by omega, fun x hx => (na x (by rw [← e]; exact hx)).2⟩
    obtain ⟨a, b, c, d⟩ := hP.o m hm
    exact ⟨(na m.name (by rw [← e]; exact List.mem_map_of_mem hm)).1, a, b, c, d⟩
  unfold f__law_web fnP m__law_web
  by_cases c : head / 64 % 4 = 1
  · obtain ⟨o1, a1, b1, _⟩ := dAdd_tup (x := txs S) (y := txs Nn) (by rw [tl, tl]; omega)
    obtain ⟨o2, a2, b2, c2⟩ := dSl_tup (ds := txs S ++ txs Nn) (lo := none) (hi := some (V : Int))
    obtain ⟨l, hl2⟩ : ∃ l, l = (S ++ Nn).take V := ⟨_, rfl⟩
    have ce : cutD (txs S ++ txs Nn) none (some (V : Int)) = txs l := by
      rw [cut_take _ (by omega), Int.toNat_natCast, hl2]
      simp [txs, List.map_take]
    rw [ce] at b2 c2
    have ll : l.length = V := by rw [hl2, List.length_take, List.length_append]; omega
    have lna : ∀ x ∈ l, NameN x := fun x hx => by
      rw [hl2] at hx
      rcases List.mem_append.mp (List.mem_of_mem_take hx) with q | q
      · exact sna x q
      · exact nna x q
    simp -implicitDefEqProofs [en0, hcap, e0, hm, hN, e1, d8, hm2, hV, e2, d64, M4, c, tl, sl, nl, a1, b1, a2, c2]
    have el : (enumD (txs l)).length ≤ 1000000 := by rw [enum_len]; omega
    rw [if_pos el]
    simp -implicitDefEqProofs
    refine wp_lc (S := Unit) (fun _ => []) (fun i acc _ => ∃ out, acc = txs out ∧ Dd l out i) () rfl ⟨[], rfl, List.nodup_nil, fun x => by simp⟩ (fun i x acc _ hx ⟨out, hacc, hP⟩ => ?_) (fun acc _ ⟨names, hacc, hP⟩ => ?_)
    · obtain ⟨nm, hnm, rfl⟩ := enum_at hx
      have hi : i < l.length := (List.getElem?_eq_some_iff.mp hnm).1
      obtain ⟨o3, a3, b3, _⟩ := dSl_tup (ds := txs l) (lo := none) (hi := some (i : Int))
      have ce2 : cutD (txs l) none (some (i : Int)) = txs (l.take i) := by
        rw [cut_take _ (by omega), Int.toNat_natCast]
        simp [txs, List.map_take]
      rw [ce2] at b3
      have ni := notIn_tup nm (l.take i)
      have tk : l.take (i + 1) = l.take i ++ [nm] := by
        rw [← (List.getElem?_eq_some_iff.mp hnm).2]
        exact (List.take_append_getElem hi).symm
      obtain ⟨TK, hTK⟩ : ∃ z, z = txs (l.take i) := ⟨_, rfl⟩
      obtain ⟨TL, hTL⟩ : ∃ z, z = txs l := ⟨_, rfl⟩
      obtain ⟨TS, hTS⟩ : ∃ z, z = txs S := ⟨_, rfl⟩
      rw [← hTK] at b3 ni
      rw [← hTL] at a3
      rw [← hTL, ← hTS]
      by_cases z : nm ∈ l.take i
      · have fi : ∃ o, acc ++ [] = txs o ∧ Dd l o (i + 1) := ⟨out, by rw [List.append_nil]; exact hacc, hP.n, fun x => by
          rw [hP.m, tk, List.mem_append, List.mem_singleton]
          constructor
          · exact fun q => .inl q
          · rintro (q | q)
            · exact q
            · rw [q]; exact z⟩
        rw [decide_eq_true z] at ni
        simp -implicitDefEqProofs [_law_web_ct1, _law_web_ce1, a3, b3, ni, hcap]
        simpa using fi
      · have fi : ∃ o, acc ++ [.str (T nm)] = txs o ∧ Dd l o (i + 1) := by
          refine ⟨out ++ [nm], by rw [hacc]; simp [txs], ?_, fun x => ?_⟩
          · rw [List.nodup_append]
            refine ⟨hP.n, by simp, fun a ha b hb e => ?_⟩
            rw [List.mem_singleton.mp hb] at e
            rw [e] at ha
            exact z ((hP.m nm).mp ha)
          · rw [List.mem_append, tk, List.mem_append, hP.m]
        rw [decide_eq_false z] at ni
        simp -implicitDefEqProofs [_law_web_ct1, _law_web_ce1, a3, b3, ni, hcap]
        exact fi
    · rw [enum_len, ] at hP
      have mm : ∀ x, x ∈ names ↔ x ∈ l := fun x => by rw [hP.m, List.take_length]
      have nl1 : 1 ≤ names.length := by
        have : l[0]'(by omega) ∈ names := (mm _).mpr (List.getElem_mem (by omega))
        exact List.length_pos_of_mem this
      have nl2 : names.length ≤ moves := by
        have := nodup_le hP.n fun x hx => (mm x).mp hx
        omega
      subst hacc
      have nlen : (txs names).length ≤ 1000000 := by rw [tl]; omega
      simp -implicitDefEqProofs [hcap]
      refine (go names hP.n (fun x hx => lna x ((mm x).mp hx)) nl1 nl2).mono fun o ⟨M, ρ, ho, hρ, hP2⟩ => ?_
      subst ho hρ
      obtain ⟨f1, f2, f3⟩ := fin hP.n (fun x hx => lna x ((mm x).mp hx)) nl1 nl2 hP2
      have lM : (M.map MoveL.D).length ≤ 1000000 := by rw [List.length_map]; omega
      obtain ⟨MD, hMD⟩ : ∃ z, z = M.map MoveL.D := ⟨_, rfl⟩
      rw [← hMD] at lM ⊢
      simp -implicitDefEqProofs [lM, hcap]
      exact ⟨S, M, by rw [hMD]; rfl, f1, f2, f3.1, fun a ha => f3.2 _ (List.mem_map_of_mem ha)⟩
  · simp -implicitDefEqProofs [en0, hcap, e0, hm, hN, e1, d8, hm2, hV, e2, d64, M4, c, tl, sl, nl]
    refine (go Nn nnd nna (by omega) (by omega)).mono fun o ⟨M, ρ, ho, hρ, hP⟩ => ?_
    subst ho hρ
    obtain ⟨f1, f2, f3⟩ := fin nnd nna (by omega) (by omega) hP
    have lM : (M.map MoveL.D).length ≤ 1000000 := by rw [List.length_map]; omega
    obtain ⟨MD, hMD⟩ : ∃ z, z = M.map MoveL.D := ⟨_, rfl⟩
    rw [← hMD] at lM ⊢
    simp -implicitDefEqProofs [lM, hcap]
    exact ⟨S, M, by rw [hMD]; rfl, f1, f2, f3.1, fun a ha => f3.2 _ (List.mem_map_of_mem ha)⟩
end KN

set_option Elab.async false
set_option linter.all false
set_option maxRecDepth 100000
set_option maxHeartbeats 4000000
namespace KN
open PySem L2 DL WA LD LE OR
/-! ### kept draws -/
/-- the fields of a kept draw -/
def ke (W P : D) : List (Str × D) := [("web", W), ("past", P)]
theorem two_ke (W P : D) : twoF (ke W P) = true := rfl
theorem ke_len (W P : D) : (ke W P).length = 2 := rfl
section
variable {ρ : En}
@[simp] theorem ev_insAt {i : Nat} : insAt ρ i = match ρ[i]? with | some (some (.ow b (.ins c fs))) => some (b, c, fs) | _ => none := rfl
@[simp] theorem ev_mFldI {i : Nat} {f : Str} : mFldI i f ρ = (insAt ρ i).bind fun x => (x.2.2.lookup f).bind fun d => some (.fz d, ρ) := rfl
@[simp] theorem ev_mFldSt {i : Nat} {f : Str} {me : ME} : mFldSt i f me ρ = (me ρ).bind fun p => (frR p.1 p.2).bind fun q => (insAt q.2 i).bind fun x => if x.2.2.length < 900 then some (.nx (q.2.set i (some (.ow x.1 (.ins x.2.1 (putFD f q.1 x.2.2)))))) else none := rfl
@[simp] theorem ev_mMeth {i : Nat} {mf : List D → Option (D × D)} {ma : MA} : mMeth i mf ma ρ = (insAt ρ i).bind fun y => if twoF y.2.2 = true then (ma ρ).bind fun p => (frs p.1 p.2).bind fun q => (insAt q.2 i).bind fun x => (mf (.ins x.2.1 x.2.2 :: q.1)).bind fun r => some (.fz r.1, q.2.set i (some (.ow x.1 r.2))) else none := rfl
@[simp] theorem ev_mMake {i : Nat} {mf : List D → Option (D × D)} {ma : MA} : mMake i mf ma ρ = (ma ρ).bind fun p => (frs p.1 p.2).bind fun q => (mf (.ins 0 [] :: q.1)).bind fun r => match r with
  | (.non, .ins c fs) => (setE i (.ow false (.ins c fs)) q.2).bind fun ρ' => some (.nx ρ')
  | _ => none := rfl
end
theorem en1_2 {W P x : D} : en1 2 0 [.ins 0 (ke W P), x] = [some (.ow true (.ins 0 (ke W P))), some (.fz x)] := rfl
theorem en1_1 {W P : D} : en1 1 0 [.ins 0 (ke W P)] = [some (.ow true (.ins 0 (ke W P)))] := rfl
theorem init_spec (W : D) : f_kd_init [.ins 0 [], W] = some (.non, .ins 0 (ke W (.tup []))) := rfl
theorem past_spec (W P : D) : f_kd_past_now [.ins 0 (ke W P)] = some (P, .ins 0 (ke W P)) := rfl
theorem leads_spec {W P L : D} (h : LD.f_led_by [W, P] = some L) : f_kd_leads_now [.ins 0 (ke W P)] = some (L, .ins 0 (ke W P)) := by
  unfold f_kd_leads_now fnB m_kd_leads_now
  rw [en1_1]
  obtain ⟨K, hK⟩ : ∃ K, K = ke W P := ⟨_, rfl⟩
  have h1 : K.lookup ("web" : Str) = some W := by rw [hK]; rfl
  have h2 : K.lookup ("past" : Str) = some P := by rw [hK]; rfl
  rw [← hK]
  simp -implicitDefEqProofs [h1, h2, h, owAt]
theorem met_spec {W P L : D} (h : LE.f_met_by [W, P] = some L) : f_kd_met_now [.ins 0 (ke W P)] = some (L, .ins 0 (ke W P)) := by
  unfold f_kd_met_now fnB m_kd_met_now
  rw [en1_1]
  obtain ⟨K, hK⟩ : ∃ K, K = ke W P := ⟨_, rfl⟩
  have h1 : K.lookup ("web" : Str) = some W := by rw [hK]; rfl
  have h2 : K.lookup ("past" : Str) = some P := by rw [hK]; rfl
  rw [← hK]
  simp -implicitDefEqProofs [h1, h2, h, owAt]
theorem add_tup {a b : List D} (h : a.length + b.length ≤ 1000000) : ∃ o, dAdd (.tup a) (.tup b) = some o ∧ o.d = .tup (a ++ b) := by
  obtain ⟨o, e1, e2, _⟩ := dAdd_tup (x := a) (y := b) (by rw [show cap = 1000000 from rfl]; exact h)
  exact ⟨o, e1, e2⟩
theorem back_spec {W L : D} {n : Nm} {p : List Nm} (h : LD.f_led_by [W, .tup [.str (T n)]] = some L) (hl : p.length ≤ 10000) : f_kd_put_back [.ins 0 (ke W (.tup (txs p))), .str (T n)] = some (.non, .ins 0 (ke W (.tup (txs (n :: p))))) := by
  have hcap : cap = 1000000 := rfl
  unfold f_kd_put_back fnB m_kd_put_back
  rw [en1_2]
  obtain ⟨K, hK⟩ : ∃ K, K = ke W (.tup (txs p)) := ⟨_, rfl⟩
  have h1 : K.lookup ("web" : Str) = some W := by rw [hK]; rfl
  have h2 : K.lookup ("past" : Str) = some (.tup (txs p)) := by rw [hK]; rfl
  have h3 : K.length < 900 := by rw [hK, ke_len]; omega
  have h4 : ∀ d, putFD "past" d K = ke W d := fun d => by rw [hK]; rfl
  obtain ⟨o, e1, e2⟩ := add_tup (a := [.str (T n)]) (b := txs p) (by simp [txs]; omega)
  have e2 : o.d = .tup (txs (n :: p)) := e2
  rw [← hK]
  simp -implicitDefEqProofs [h1, h2, h3, h4, h, owAt, e1, e2, hcap]
theorem now_spec {W L : D} {n : Nm} {p : List Nm} (h : LD.f_led_by [W, .tup [.str (T n)]] = some L) (hl : p.length ≤ 10000) : f_kd_put_now [.ins 0 (ke W (.tup (txs p))), .str (T n)] = some (.non, .ins 0 (ke W (.tup (txs (p ++ [n]))))) := by
  have hcap : cap = 1000000 := rfl
  unfold f_kd_put_now fnB m_kd_put_now
  rw [en1_2]
  obtain ⟨K, hK⟩ : ∃ K, K = ke W (.tup (txs p)) := ⟨_, rfl⟩
  have h1 : K.lookup ("web" : Str) = some W := by rw [hK]; rfl
  have h2 : K.lookup ("past" : Str) = some (.tup (txs p)) := by rw [hK]; rfl
  have h3 : K.length < 900 := by rw [hK, ke_len]; omega
  have h4 : ∀ d, putFD "past" d K = ke W d := fun d => by rw [hK]; rfl
  obtain ⟨o, e1, e2⟩ := add_tup (a := txs p) (b := [.str (T n)]) (by simp [txs]; omega)
  have e2 : o.d = .tup (txs (p ++ [n])) := by rw [e2]; simp [txs]
  rw [← hK]
  simp -implicitDefEqProofs [h1, h2, h3, h4, h, owAt, e1, e2, hcap]
end KN

set_option Elab.async false
set_option linter.all false
set_option maxRecDepth 100000
set_option maxHeartbeats 4000000
namespace KN
open PySem L2 DL WA LD LE OR
theorem small_letters {x : Nm} (h : ∀ c ∈ x, IsLetter c) : Small x := fun c hc => by have := h c hc; unfold IsLetter at this; omega
section
variable {states : List Nm} {moves : List MoveL}
/-- what met_by tells -/
def mt (states : List Nm) (moves : List MoveL) (p : List Nm) : D := metD states moves p (meet states moves p)
/-- all are led to x by q, by one move fewer not to one -/
structure Pt (states : List Nm) (moves : List MoveL) (q : List Nm) (x : Nm) : Prop where
  nm : ∀ n ∈ q, n ∈ moves.map MoveL.name
  to : ∀ s ∈ states, walk states moves q s = x
  lst : q = [] ∨ ¬ Cst states moves (q.drop 1)
variable (h : W0 states moves) (h0 : 1 ≤ states.length)
include h h0
theorem mt_at {ahead q : List Nm} {x : Nm} (P : Pt states moves q x) : mt states moves (ahead ++ q) = .tup [.str (T x), .int (q.length : Nat)] := by
  unfold mt
  rw [meet_some h h0 P.nm ⟨x, P.to⟩ P.lst]
  show D.tup [.str (T ((tailLed states moves (ahead ++ q) q.length).headD [])), .int (q.length : Nat)] = _
  have : tailLed states moves (ahead ++ q) q.length = led states moves q := by
    unfold tailLed
    rw [List.length_append, show ahead.length + q.length - q.length = ahead.length by omega, List.drop_left]
  rw [this, led_eq]
  cases states with
  | nil => simp at h0
  | cons a t => rw [List.map_cons, List.headD_cons, P.to a List.mem_cons_self]
theorem mt_no {p : List Nm} (hp : ∀ n ∈ p, n ∈ moves.map MoveL.name) (hn : ¬ Cst states moves p) : mt states moves p = .non := by
  unfold mt
  rw [meet_none h h0 hp hn]; rfl
omit h0 in
theorem pt_in {q : List Nm} {x : Nm} (h0 : 1 ≤ states.length) (P : Pt states moves q x) : x ∈ states := by
  cases states with
  | nil => simp at h0
  | cons a t => rw [← P.to a List.mem_cons_self]; exact walk_mem h P.nm List.mem_cons_self
/-- the least that lets all meet -/
theorem least {p : List Nm} (hp : ∀ n ∈ p, n ∈ moves.map MoveL.name) (hc : Cst states moves p) : ∃ pre q x, p = pre ++ q ∧ Pt states moves q x := by
  induction p with
  | nil => obtain ⟨x, hx⟩ := hc; exact ⟨[], [], x, rfl, by simp, hx, .inl rfl⟩
  | cons a p ih =>
    rcases Classical.em (Cst states moves p) with c | c
    · obtain ⟨pre, q, x, e, P⟩ := ih (fun n hn => hp n (List.mem_cons_of_mem _ hn)) c
      exact ⟨a :: pre, q, x, by rw [e]; rfl, P⟩
    · obtain ⟨x, hx⟩ := hc
      exact ⟨[], a :: p, x, rfl, hp, hx, .inr c⟩
/-- a row behind the least one -/
theorem pt_app {pre q : List Nm} {x : Nm} (P : Pt states moves q x) (hp : ∀ n ∈ pre, n ∈ moves.map MoveL.name) : ∀ s ∈ states, walk states moves (pre ++ q) s = x := fun s hs => by
  rw [walk_app]; exact P.to _ (walk_mem h hp hs)
theorem met_eq {p : List Nm} (hp : ∀ n ∈ p, n ∈ moves.map MoveL.name) (hl : p.length ≤ 1000) : LE.f_met_by [webD states moves, .tup (txs p)] = some (mt states moves p) := LE.met_spec h h0 hp (by omega)
omit h h0 in
theorem add_txs {a b : List Nm} (h : a.length + b.length ≤ 1000000) : ∃ o, dAdd (.tup (txs a)) (.tup (txs b)) = some o ∧ o.d = .tup (txs (a ++ b)) := by
  obtain ⟨o, e1, e2, _⟩ := dAdd_tup (x := txs a) (y := txs b) (by rw [show cap = 1000000 from rfl]; simpa [txs] using h)
  refine ⟨o, e1, e2.trans ?_⟩
  unfold txs; rw [List.map_append]
end
section
variable {states : List Nm} {moves : List MoveL} (h : W0 states moves) (h0 : 1 ≤ states.length) (hs : ∀ x ∈ states, Small x)
include h h0 hs
end
section
variable {states : List Nm} {moves : List MoveL} (h : W0 states moves) (h0 : 1 ≤ states.length) (hs : ∀ x ∈ states, Small x)
include h
end
/-! ### like data are alike -/
theorem eqvAll_self : ∀ ds : List D, (∀ d ∈ ds, eqD d d = true) → PyData.eqvAll (toPys ds) (toPys ds) = true
  | [], _ => by simp [toPys, PyData.eqvAll]
  | d :: ds, h => by
    have h1 : PyData.eqv (toPy d) (toPy d) = true := h d List.mem_cons_self
    have h2 := eqvAll_self ds fun x hx => h x (List.mem_cons_of_mem _ hx)
    simp [toPys, PyData.eqvAll, h1, h2]
theorem eqvAll_ints : ∀ ns : List Int, PyData.eqvAll (ns.map PyData.int) (ns.map PyData.int) = true
  | [] => by simp [PyData.eqvAll]
  | n :: ns => by
    have := eqvAll_ints ns
    simp [PyData.eqvAll, PyData.eqv, this]
theorem eqD_self : ∀ (n : Nat) (d : D), okD n d = true → eqD d d = true
  | _, .non, _ => by simp [eqD, toPy, PyData.eqv]
  | _, .bl _, _ => by simp [eqD, toPy, PyData.eqv]
  | _, .int _, _ => by simp [eqD, toPy, PyData.eqv]
  | _, .str _, _ => by simp [eqD, toPy, PyData.eqv]
  | 0, .tup _, h => by cases h
  | 0, .tpl _, h => by cases h
  | 0, .lst _, h => by cases h
  | 0, .scr _, h => by cases h
  | n + 1, .tup ds, h => by
    have h' : ∀ d ∈ ds, okD n d = true := List.all_eq_true.mp h
    have := eqvAll_self ds fun d hd => eqD_self n d (h' d hd)
    simpa [eqD, toPy, PyData.eqv] using this
  | n + 1, .tpl ds, h => by
    have h' : ∀ d ∈ ds, okD n d = true := List.all_eq_true.mp h
    have := eqvAll_self ds fun d hd => eqD_self n d (h' d hd)
    simpa [eqD, toPy, PyData.eqv] using this
  | n + 1, .lst ds, h => by
    have h' : ∀ d ∈ ds, okD n d = true := List.all_eq_true.mp h
    have := eqvAll_self ds fun d hd => eqD_self n d (h' d hd)
    simpa [eqD, toPy, PyData.eqv] using this
  | n + 1, .scr ns, h => by
    have := eqvAll_ints ns
    simpa [eqD, toPy, PyData.eqv] using this
  | n, .dic _, h => by cases n <;> cases h
  | n, .dit _, h => by cases n <;> cases h
  | n, .exc _ _, h => by cases n <;> cases h
  | n, .fn _, h => by cases n <;> cases h
  | n, .nst _, h => by cases n <;> cases h
  | n, .mu _, h => by cases n <;> cases h
  | n, .dtt _, h => by cases n <;> cases h
  | n, .ins _ _, h => by cases n <;> cases h
theorem ne_me {d : D} (h : okD 8 d = true) : dNe d d = some (.val (.bl false)) := by
  have e := eqD_self 8 d h
  cases d
  case int i => show some (O1.val (.bl (!decide (i = i)))) = _; simp
  case str i => show some (O1.val (.bl (!decide (i = i)))) = _; simp
  case bl i => show some (O1.val (.bl (!decide (i = i)))) = _; simp
  all_goals
    unfold dNe
    dsimp only
    rw [if_pos ⟨h, h⟩, e]; rfl
theorem ok_tx {n : Nat} {l : List Nm} (hl : ∀ x ∈ l, Small x) : okD (n + 1) (.tup (txs l)) = true := ok_txs hl
/-! ### where all meet -/
section
variable {states : List Nm} {moves : List MoveL} (h : W0 states moves) (h0 : 1 ≤ states.length)
include h h0
/-- a past that lets all meet at x by k of its last moves -/
structure MtAt (states : List Nm) (moves : List MoveL) (p : List Nm) (x : Nm) (k : Nat) : Prop where
  e : mt states moves p = .tup [.str (T x), .int (k : Nat)]
  m : x ∈ states
  l : k ≤ p.length
  a : ∀ a : List Nm, mt states moves (a ++ p) = .tup [.str (T x), .int (k : Nat)]
  on : ∀ n ∈ moves.map MoveL.name, ∃ k2 : Nat, k2 ≤ k + 1 ∧ mt states moves (p ++ [n]) = .tup [.str (T (walk states moves [n] x)), .int (k2 : Nat)]
theorem mt_cases {p : List Nm} (hp : ∀ n ∈ p, n ∈ moves.map MoveL.name) : mt states moves p = .non ∨ ∃ x k, MtAt states moves p x k := by
  rcases Classical.em (Cst states moves p) with c | c
  · obtain ⟨pre, q, x, rfl, P⟩ := least h h0 hp c
    have xs := pt_in h h0 P
    refine .inr ⟨x, q.length, mt_at h h0 P, xs, by simp, fun a => by rw [← List.append_assoc]; exact mt_at h h0 P, fun n hn => ?_⟩
    by_cases z : q = []
    · subst z
      have := mt_at h h0 (ahead := pre ++ [] ++ [n]) P
      rw [List.append_nil] at this
      have xm : walk states moves [n] x ∈ states := walk_mem h (fun y hy => by rw [List.mem_singleton.mp hy]; exact hn) xs
      have one : walk states moves [n] x = x := P.to (walk states moves [n] x) xm
      exact ⟨0, by simp, by rw [one]; exact this⟩
    · have hql : ∀ y ∈ q ++ [n], y ∈ moves.map MoveL.name := fun y hy => (List.mem_append.mp hy).elim (P.nm y) fun z => by rw [List.mem_singleton.mp z]; exact hn
      have cql : ∀ s ∈ states, walk states moves (q ++ [n]) s = walk states moves [n] x := fun s hs' => by rw [walk_app, P.to s hs']
      obtain ⟨pre2, q2, y2, eq2, P2⟩ := least h h0 hql ⟨_, cql⟩
      have ey : y2 = walk states moves [n] x := by
        have a1 := pt_app h h0 (pre := pre2) P2 (fun n hn => hql n (by rw [eq2]; exact List.mem_append_left _ hn)) x xs
        rw [← eq2, cql x xs] at a1
        exact a1.symm
      have epl : pre ++ q ++ [n] = (pre ++ pre2) ++ q2 := by rw [List.append_assoc, eq2, List.append_assoc]
      have ql2 : q2.length ≤ q.length + 1 := by
        have := congrArg List.length eq2
        simp at this
        omega
      exact ⟨q2.length, ql2, by rw [epl, ← ey]; exact mt_at h h0 P2⟩
  · exact .inl (mt_no h h0 hp c)
end
end KN

set_option Elab.async false
set_option linter.all false
set_option maxRecDepth 100000
set_option maxHeartbeats 4000000
namespace KW
open PySem L2 DL WA LD LE OR KN
section
variable {S : List Nm} {M : List MoveL} (h : W0 S M)
include h
theorem ways_spec : f__law_ways [webD S M] = some (waysD S M) := by
  have hcap : cap = 1000000 := rfl
  have hf := h.few
  have w0 : dIx (webD S M) (.int 0) = some (.val (.tup (txs S))) := by unfold webD; simp
  have w1 : dIx (webD S M) (.int 1) = some (.val (.tup (M.map MoveL.D))) := by unfold webD; simp
  have ml : M.length ≤ 1000000 := by omega
  have lc := lc_map MoveL.D (fun m => D.tup [.str (T m.name), .dic (dT S (txs m.images))]) (xs := M) (g := mGTup 3 (mGCons (mGName 1) (mGCons (mGName 2) (mGCons (mGName 3) mGNil)))) (vs := [1, 2, 3]) (mt := mYes) (me := _law_ways_ce1) (ρ := [some (.fz (webD S M)), none, none, none]) fun m hm => by
    have z1 : dZip (.tup (txs S)) (.tup (txs m.images)) = some (.newK (dT S (txs m.images))) := dZip_dT rfl rfl h.snd (by simp [h.len m hm])
    unfold MoveL.D
    simp [_law_ways_ce1, hcap, mDictZip, w0, z1]
  have dz := dict_zip h.mnd fun n => D.dic (dT S (txs (imgs M n)))
  have e1 : ((M.map MoveL.name).map fun k => D.tup [.str (T k), .dic (dT S (txs (imgs M k)))]) = M.map fun m => D.tup [.str (T m.name), .dic (dT S (txs m.images))] := by
    rw [List.map_map]
    apply List.map_congr_left
    intro m hm
    show D.tup [.str (T m.name), .dic (dT S (txs (imgs M m.name)))] = _
    rw [imgs_mem h hm]
  have e2 : ((M.map MoveL.name).map fun n => D.dic (dT S (txs (imgs M n)))) = M.map fun m => D.dic (dT S (txs m.images)) := by
    rw [List.map_map]
    apply List.map_congr_left
    intro m hm
    show D.dic (dT S (txs (imgs M m.name))) = _
    rw [imgs_mem h hm]
  rw [e1, e2] at dz
  obtain ⟨W, hW⟩ : ∃ W, W = webD S M := ⟨_, rfl⟩
  rw [← hW] at w1 lc ⊢
  rw [wp_eq_iff]
  unfold f__law_ways fnP m__law_ways
  simp -implicitDefEqProofs [en0, w1, lc, ml, dz, hcap]
  rfl
/-- the images of a move, looked up -/
theorem way_at {name : Nm} (hn : name ∈ M.map MoveL.name) : dIx (waysD S M) (.str (T name)) = some (.val (.dic (dT S (txs (imgs M name))))) := by
  obtain ⟨i1, i2, i3⟩ := imgs_at h hn
  have lk : ((M.map MoveL.name).zip (M.map fun m => D.dic (dT S (txs m.images)))).lookup name = some (.dic (dT S (txs (imgs M name)))) := by
    have := lookup_map (fun l => D.dic (dT S (txs l))) (ks := M.map MoveL.name) (ds := M.map MoveL.images) (k := name)
    rw [i1, List.map_map] at this
    exact this
  exact dIx_dT lk
theorem to_at {name s : Nm} (hn : name ∈ M.map MoveL.name) (hs : s ∈ S) : dIx (.dic (dT S (txs (imgs M name)))) (.str (T s)) = some (.val (.str (T (go S M name s)))) := by
  obtain ⟨g1, g2⟩ := LD.go_at h hn hs
  have := lookup_map (fun l => D.str (T l)) (ks := S) (ds := imgs M name) (k := s)
  rw [g1] at this
  exact dIx_dT this
theorem led_spec {p : List Nm} (hp : ∀ n ∈ p, n ∈ M.map MoveL.name) : f__law_led [webD S M, .tup (txs p)] = some (.tup (txs (led S M p))) := by
  have hcap : cap = 1000000 := rfl
  have hsm := h.small
  have w0 : dIx (webD S M) (.int 0) = some (.val (.tup (txs S))) := by unfold webD; simp
  have ws := ways_spec h
  obtain ⟨W, hW⟩ : ∃ W, W = webD S M := ⟨_, rfl⟩
  obtain ⟨WY, hWY⟩ : ∃ W, W = waysD S M := ⟨_, rfl⟩
  obtain ⟨P, hP⟩ : ∃ W, W = D.tup (txs p) := ⟨_, rfl⟩
  have an : anyD P = some (txs p) := by rw [hP]; rfl
  rw [← hW] at w0 ws ⊢
  rw [← hWY] at ws
  rw [← hP]
  rw [wp_eq_iff]
  unfold f__law_led fnP m__law_led
  simp -implicitDefEqProofs [en0, ws, w0, an]
  refine wp_for (S := List Nm) (fun l => [(3, .ow false (.lst (txs l)))]) (fun i l => l = led S M (p.take i)) S rfl ?_ (fun i x l hx hl => ?_) (fun l hl => ?_)
  · rfl
  · have hi : i < p.length := by have := (List.getElem?_eq_some_iff.mp hx).1; simpa [txs] using this
    obtain ⟨n, hxn, hd⟩ : ∃ n, x = .str (T n) ∧ p.take (i + 1) = p.take i ++ [n] := by
      unfold txs at hx
      rw [List.getElem?_map, List.getElem?_eq_getElem hi] at hx
      have hx := (Option.some.inj hx).symm
      exact ⟨_, hx, (List.take_append_getElem hi).symm⟩
    subst hxn
    have nm : n ∈ M.map MoveL.name := hp n (List.mem_of_mem_take (i := i + 1) (by rw [hd]; simp))
    have lsub := led_mem h (past := p.take i) fun x hx => hp x (List.mem_of_mem_take hx)
    have llen := led_len (states := S) (moves := M) (p.take i)
    rw [hd, led_snoc]
    rw [← hl] at lsub llen ⊢
    have wa := way_at h nm
    rw [← hWY] at wa
    have lc := lc_map (fun y => D.str (T y)) (fun y => D.str (T (go S M n y))) (xs := l) (g := mGName 5) (vs := [5]) (mt := mYes) (me := _law_led_ce1) (ρ := [none, none, some (.fz WY), some (.fz (.lst (txs l))), some (.fz (.str (T n))), none]) fun y hy => by
      have t1 := to_at h nm (lsub y hy)
      obtain ⟨IM, hIM⟩ : ∃ z, z = D.dic (dT S (txs (imgs M n))) := ⟨_, rfl⟩
      rw [← hIM] at wa t1
      simp [_law_led_ce1, wa, t1]
    have e1 : (l.map fun y => D.str (T y)) = txs l := rfl
    have e2 : (l.map fun y => D.str (T (go S M n y))) = txs (l.map (go S M n)) := by unfold txs; rw [List.map_map]; rfl
    rw [e1, e2] at lc
    have ll : (txs l).length ≤ 1000000 := by simp [txs]; omega
    obtain ⟨TL, hTL⟩ : ∃ z, z = txs l := ⟨_, rfl⟩
    obtain ⟨TM, hTM⟩ : ∃ z, z = txs (l.map (go S M n)) := ⟨_, rfl⟩
    rw [← hTL] at lc ll
    rw [← hTM] at lc
    rw [← hTL]
    simp -implicitDefEqProofs [_law_led_fb1, lc, ll, hcap]
    exact hTM
  · have hl : l = led S M p := by rw [hl]; simp [txs]
    subst hl
    have llen := led_len (states := S) (moves := M) p
    have ll : (txs (led S M p)).length ≤ 1000000 := by simp [txs]; omega
    obtain ⟨TL, hTL⟩ : ∃ z, z = txs (led S M p) := ⟨_, rfl⟩
    rw [← hTL] at ll ⊢
    simp -implicitDefEqProofs [ll, hcap]
end
end KW

set_option Elab.async false
set_option linter.all false
set_option maxRecDepth 100000
set_option maxHeartbeats 4000000
namespace KW
open PySem L2 DL WA LD LE OR KN
noncomputable def lkB : MS := (mIf (mTestO (mOp dEq (fzO (mLenSet (fzO (mLc (mIAny (fzO (mOp dIx (mVar 0) (mC (.int 0))))) (mGName 6) [6] mYes _law_met_ce3)))) (mC (.int 1)))) (mRet (fzO (mTup (mCons (fzO (mOp dIx (mVar 3) (fzO (mOp dIx (fzO (mOp dIx (mVar 0) (mC (.int 0)))) (mC (.int 0)))))) (mCons (mVar 4) mNil))))) mNx)
theorem fb1_eq : _law_met_fb1 = mFg [1, 5] (mSeq (mIf (mTestO (mOp dNe (mVar 5) (mC (.str "")))) (mSeq (mSetO 3 (mCB (f1 dDict) (mCons (fzO (mLc (mIAny (fzO (mOp dIx (mVar 0) (mC (.int 0))))) (mGName 6) [6] mYes _law_met_ce2)) mNil))) (mSetO 4 (mOp dAdd (mVar 4) (mC (.int 1))))) mNx) lkB) := rfl
section
variable {S : List Nm} {M : List MoveL} (h : W0 S M) (h0 : 1 ≤ S.length)
include h h0
theorem tl_txs (p : List Nm) (m : Nat) : txs (tailLed S M p m) = S.map fun s => D.str (T (tw S M p m s)) := by
  rw [tailLed_eq]
  unfold txs
  rw [List.map_map]; rfl
/-- what is looked at each turn -/
theorem look {p : List Nm} {m : Nat} (hm : m ≤ p.length) (x5 : Option DV) :
    Wp (lkB
      [some (.fz (webD S M)), none, some (.fz (waysD S M)), some (.ow false (.dic (dT S (txs (tailLed S M p m))))), some (.fz (.int (m : Nat))), x5, none])
      fun o => if count (tailLed S M p m) = 1 then ∃ ρ, o = .rt (metD S M p (some m)) ρ else o = .nx [some (.fz (webD S M)), none, some (.fz (waysD S M)), some (.ow false (.dic (dT S (txs (tailLed S M p m))))), some (.fz (.int (m : Nat))), x5, none] := by
  unfold lkB
  have hcap : cap = 1000000 := rfl
  have hsm := h.small
  have w0 : dIx (webD S M) (.int 0) = some (.val (.tup (txs S))) := by unfold webD; simp
  have te := tl_txs h h0 (M := M) p m
  have tll : (tailLed S M p m).length = S.length := led_len _
  have hc := lenSet_txs (d := .lst (txs (tailLed S M p m))) rfl (by omega)
  have hcp := count_pos h h0 p m
  have s0 : S[0]? = some (S.headD []) := by
    cases S with
    | nil => simp at h0
    | cons a t => rfl
  have hat : atI (txs S) 0 = some (.str (T (S.headD []))) := by
    rw [atI_of (by omega) (by simp [txs]; omega)]
    unfold txs
    rw [List.getElem?_map]
    show (S[0]?).map _ = _
    rw [s0]; rfl
  have hg0 : dIx (.dic (dT S (txs (tailLed S M p m)))) (.str (T (S.headD []))) = some (.val (.str (T (tw S M p m (S.headD []))))) := by
    rw [te]; exact dT_get _ (List.mem_of_getElem? s0)
  have hh : (tailLed S M p m).headD [] = tw S M p m (S.headD []) := by
    rw [tailLed_eq]
    cases S with
    | nil => simp at h0
    | cons x r => simp
  obtain ⟨hd, hhd⟩ : ∃ hd, hd = S.headD [] := ⟨_, rfl⟩
  rw [← hhd] at hat hg0 hh
  obtain ⟨DD, hDD⟩ : ∃ z, z = D.dic (dT S (txs (tailLed S M p m))) := ⟨_, rfl⟩
  obtain ⟨W, hW⟩ : ∃ W, W = webD S M := ⟨_, rfl⟩
  obtain ⟨WY, hWY⟩ : ∃ W, W = waysD S M := ⟨_, rfl⟩
  have lc : lcL (mGName 6) [6] mYes _law_met_ce3 (txs S) [some (.fz W), none, some (.fz WY), some (.ow false DD), some (.fz (.int (m : Nat))), x5, none] = some (txs (tailLed S M p m), [some (.fz W), none, some (.fz WY), some (.ow false DD), some (.fz (.int (m : Nat))), x5, none]) := by
    have := lc_map (fun l => D.str (T l)) (fun l => D.str (T (tw S M p m l))) (xs := S) (g := mGName 6) (vs := [6]) (mt := mYes) (me := _law_met_ce3) (ρ := [some (.fz W), none, some (.fz WY), some (.ow false DD), some (.fz (.int (m : Nat))), x5, none]) fun x hx => by
      have dg : dIx DD (.str (T x)) = some (.val (.str (T (tw S M p m x)))) := by rw [hDD, te]; exact dT_get _ hx
      simp [_law_met_ce3, dg]
    rw [te]
    exact this
  rw [← hDD] at hg0
  rw [← hW] at w0
  rw [← hDD, ← hW, ← hWY]
  obtain ⟨TL, hTL⟩ : ∃ z, z = txs (tailLed S M p m) := ⟨_, rfl⟩
  have sl : S.length ≤ 1000000 := by omega
  rw [← hTL] at lc hc
  obtain ⟨TS, hTS⟩ : ∃ z, z = txs S := ⟨_, rfl⟩
  have tsl : TS.length ≤ 1000000 := by rw [hTS]; simp [txs]; omega
  rw [← hTS] at w0 hat lc
  by_cases c : count (tailLed S M p m) = 1
  · refine Wp.mono (Q := fun o => ∃ ρ, o = .rt (metD S M p (some m)) ρ) ?_ (fun o ho => by rw [if_pos c]; exact ho)
    rw [c] at hc
    have md : metD S M p (some m) = .tup [.str (T (tw S M p m hd)), .int (m : Nat)] := by
      show D.tup [.str (T ((tailLed S M p m).headD [])), .int (m : Nat)] = _
      rw [hh]
    rw [md]
    simp -implicitDefEqProofs [w0, tsl, lc, mLenSet, hc, hat, hg0, hcap]
  · refine Wp.mono (Q := fun o => o = .nx [some (.fz W), none, some (.fz WY), some (.ow false DD), some (.fz (.int (m : Nat))), x5, none]) ?_ (fun o ho => by rw [if_neg c]; exact ho)
    have c1 : dEq (.int (count (tailLed S M p m) : Nat)) (.int 1) = some (.val (.bl false)) := by
      show some (O1.val (.bl (decide (((count (tailLed S M p m) : Nat) : Int) = 1)))) = _
      rw [decide_eq_false (by omega)]
    simp -implicitDefEqProofs [w0, tsl, lc, mLenSet, hc, hcap, c1, -dEq_int]
omit h h0 in
theorem tail_succ {p : List Nm} {i : Nat} (hi : i < p.length) : ∃ n, p[p.length - 1 - i]? = some n ∧ p.drop (p.length - (i + 1)) = n :: p.drop (p.length - i) := by
  have e1 : p.length - (i + 1) < p.length := by omega
  refine ⟨p[p.length - 1 - i], List.getElem?_eq_getElem (by omega), ?_⟩
  rw [List.drop_eq_getElem_cons e1]
  congr 2 <;> omega
/-- the whole walk -/
theorem met_spec {p : List Nm} (hp : ∀ n ∈ p, n ∈ M.map MoveL.name) (hne : ∀ n ∈ M.map MoveL.name, n ≠ []) (hl : p.length ≤ 1000) : f__law_met [webD S M, .tup (txs p)] = some (mt S M p) := by
  have hcap : cap = 1000000 := rfl
  have hsm := h.small
  have ws := ways_spec h
  have w0 : dIx (webD S M) (.int 0) = some (.val (.tup (txs S))) := by unfold webD; simp
  have es : Str.ofString "" = T [] := by decide +kernel
  have tle : tailLed S M p 0 = S := by
    rw [tailLed_eq]
    show S.map (fun s => tw S M p 0 s) = S
    have : (fun s => tw S M p 0 s) = fun s => s := funext fun s => by simp [tw, walk]
    rw [this, List.map_id']
  have lc0 := lc_map (fun l => D.str (T l)) (fun l => D.tup [.str (T l), .str (T l)]) (xs := S) (g := mGName 6) (vs := [6]) (mt := mYes) (me := _law_met_ce1) (ρ := [some (.fz (webD S M)), some (.fz (.tup (txs p))), some (.fz (waysD S M)), none, none, none, none]) fun x _ => by
    simp [_law_met_ce1, hcap]
  rw [show (S.map fun l => D.str (T l)) = txs S from rfl] at lc0
  have dz0 := dict_zip h.snd fun s => D.str (T s)
  have sl : S.length ≤ 1000000 := by omega
  have tsS : (txs S).length ≤ 1000000 := by simp [txs]; omega
  have whole : ([D.str (T [])] : List D) ++ (txs p).reverse = txs ([] :: p.reverse) := by unfold txs; rw [List.map_cons, List.map_reverse]; rfl
  have pl : (txs p).length ≤ 1000000 := by simp [txs]; omega
  have cl : 1 + p.length ≤ 1000000 := by omega
  have dl : (D.dic (dT S (S.map fun s => D.str (T s)))) = .dic (dT S (txs (tailLed S M p 0))) := by rw [tle]; rfl
  have ad : dAdd (.lst [.str (T [])]) (.lst (txs p).reverse) = some (.newL (txs ([] :: p.reverse))) := by
    show (if ([D.str (T [])] : List D).length + (txs p).reverse.length ≤ cap then some (O1.newL (([D.str (T [])] : List D) ++ (txs p).reverse)) else none) = _
    rw [if_pos (by simp [txs, hcap]; omega), whole]
  obtain ⟨PR, hPR⟩ : ∃ z, z = (txs p).reverse := ⟨_, rfl⟩
  obtain ⟨D0, hD0⟩ : ∃ z, z = dT S (S.map fun s => D.str (T s)) := ⟨_, rfl⟩
  have rv : dRevT (.lst (txs p)) = some (.newL PR) := by rw [hPR]; rfl
  rw [← hPR] at ad
  rw [← hD0] at dl dz0
  rw [wp_eq_iff]
  unfold f__law_met fnP m__law_met
  simp -implicitDefEqProofs [en0, ws, w0, tsS, lc0, dz0, rv, es, ad, hcap, sl, -dAdd_lst]
  refine wp_for (S := Nat) (fun m => [(3, .ow false (.dic (dT S (txs (tailLed S M p m))))), (4, .fz (.int (m : Nat)))]) (fun i m => m = i - 1 ∧ m ≤ p.length ∧ ∀ k, k < i → count (tailLed S M p k) ≠ 1) 0 ?_ ⟨rfl, by omega, fun k hk => by omega⟩ (fun i x m hx hm => ?_) (fun m hm => ?_)
  · rw [← dl]; rfl
  · obtain ⟨hm1, hm2, hm3⟩ := hm
    dsimp only [putE_cons, putE_nil, List.set_cons_succ, List.set_cons_zero]
    have fin : ∀ (m' : Nat) (x5 : Option DV), m' = i → m' ≤ p.length → (∀ k, k < i → count (tailLed S M p k) ≠ 1) →
        Wp (lkB [some (.fz (webD S M)), none, some (.fz (waysD S M)), some (.ow false (.dic (dT S (txs (tailLed S M p m'))))), some (.fz (.int (m' : Nat))), x5, none]) fun o => o = .nx [some (.fz (webD S M)), none, some (.fz (waysD S M)), some (.ow false (.dic (dT S (txs (tailLed S M p m'))))), some (.fz (.int (m' : Nat))), x5, none] ∧ count (tailLed S M p m') ≠ 1 ∨ ∃ ρ, o = .rt (mt S M p) ρ := fun m' x5 e1 e2 hk => by
      refine (look h h0 e2 x5).mono fun o ho => ?_
      by_cases c : count (tailLed S M p m') = 1
      · rw [if_pos c] at ho
        obtain ⟨ρ, ho⟩ := ho
        have : meet S M p = some m' := find_some (by omega) (by simpa using c) fun k hkm => by simpa using hk k (by omega)
        refine .inr ⟨ρ, ?_⟩
        rw [ho]
        unfold KN.mt
        rw [this]
      · rw [if_neg c] at ho
        exact .inl ⟨ho, c⟩
    have li := (List.getElem?_eq_some_iff.mp hx).1
    have li : i < p.length + 1 := by simpa [txs] using li
    suffices key : ∀ Z : Out → Prop, (∀ ρ, Z (.rt (mt S M p) ρ)) → (count (tailLed S M p i) ≠ 1 → Z (.nx [some (.fz (webD S M)), none, some (.fz (waysD S M)), some (.ow false (.dic (dT S (txs (tailLed S M p i))))), some (.fz (.int (i : Nat))), none, none])) →
        Wp (mGName 5 x [some (.fz (webD S M)), none, some (.fz (waysD S M)), some (.ow false (.dic (dT S (txs (tailLed S M p m))))), some (.fz (.int (m : Nat))), none, none]) fun ρ1 => Wp (_law_met_fb1 ρ1) Z from key _ (fun ρ => by simp) (fun c => ⟨i, rfl, by omega, by omega, fun k hk => by
      by_cases e : k = i
      · rw [e]; exact c
      · exact hm3 k (by omega)⟩)
    intro Z z1 z2
    have fn := fin i (some (.fz x)) rfl (by omega) hm3
    have fin2 : ∀ o : Out, (o = .nx [some (.fz (webD S M)), none, some (.fz (waysD S M)), some (.ow false (.dic (dT S (txs (tailLed S M p i))))), some (.fz (.int (i : Nat))), some (.fz x), none] ∧ count (tailLed S M p i) ≠ 1 ∨ ∃ ρ, o = .rt (mt S M p) ρ) → Wp (some (fgO [1, 5] o)) Z := fun o ho => by
      rcases ho with ⟨rfl, c⟩ | ⟨ρ, rfl⟩
      · have := z2 c
        simpa using this
      · simpa using z1 ρ
    clear fin z1 z2
    rcases i with _ | j
    · have ex : x = .str (T []) := by
        have : (txs ([] :: p.reverse))[0]? = some (.str (T [])) := rfl
        rw [this] at hx
        exact (Option.some.inj hx).symm
      have em : m = 0 := by omega
      subst em ex
      have ne0 : dNe (.str (T [])) (.str (T [])) = some (.val (.bl false)) := by
        show some (O1.val (.bl (!decide (T [] = T [])))) = _
        simp
      obtain ⟨W, hW⟩ : ∃ W, W = webD S M := ⟨_, rfl⟩
      obtain ⟨WY, hWY⟩ : ∃ W, W = waysD S M := ⟨_, rfl⟩
      obtain ⟨DD, hDD⟩ : ∃ z, z = D.dic (dT S (txs (tailLed S M p 0))) := ⟨_, rfl⟩
      rw [← hW, ← hWY, ← hDD] at fn fin2
      rw [← hW, ← hWY, ← hDD]
      rw [show ((0 : Nat) : Int) = 0 from rfl] at fn fin2 ⊢
      simp -implicitDefEqProofs [fb1_eq, es, ne0]
      exact fn.mono fun o ho => by simpa using fin2 o ho
    · have em : m = j := by omega
      subst em
      obtain ⟨n, hn1, hn2⟩ := tail_succ (p := p) (i := m) (by omega)
      have ex : x = .str (T n) := by
        have : (txs ([] :: p.reverse))[m + 1]? = some (.str (T n)) := by
          show (txs p.reverse)[m]? = _
          unfold txs
          rw [List.getElem?_map, List.getElem?_reverse (by omega), hn1]; rfl
        rw [this] at hx
        exact (Option.some.inj hx).symm
      subst ex
      have nm : n ∈ M.map MoveL.name := hp n (List.mem_of_getElem? hn1)
      have ne1 : dNe (.str (T n)) (.str (T [])) = some (.val (.bl true)) := by
        show some (O1.val (.bl (!decide (T n = T [])))) = _
        rw [decide_eq_false (fun e => hne n nm (T_inj.mp e))]; rfl
      have tws : ∀ s, tw S M p (m + 1) s = tw S M p m (go S M n s) := fun s => by
        unfold tw
        rw [hn2]; rfl
      have te := tl_txs h h0 (M := M) p m
      have te1 := tl_txs h h0 (M := M) p (m + 1)
      have dz := dict_zip h.snd fun s => D.str (T (tw S M p (m + 1) s))
      rw [← te1] at dz
      have wa := way_at h nm
      obtain ⟨W, hW⟩ : ∃ W, W = webD S M := ⟨_, rfl⟩
      obtain ⟨WY, hWY⟩ : ∃ W, W = waysD S M := ⟨_, rfl⟩
      obtain ⟨IM, hIM⟩ : ∃ z, z = D.dic (dT S (txs (imgs M n))) := ⟨_, rfl⟩
      obtain ⟨DD, hDD⟩ : ∃ z, z = D.dic (dT S (txs (tailLed S M p m))) := ⟨_, rfl⟩
      have lc := lc_map (fun l => D.str (T l)) (fun s => D.tup [.str (T s), .str (T (tw S M p (m + 1) s))]) (xs := S) (g := mGName 6) (vs := [6]) (mt := mYes) (me := _law_met_ce2) (ρ := [some (.fz W), none, some (.fz WY), some (.ow false DD), some (.fz (.int (m : Nat))), some (.fz (.str (T n))), none]) fun s hs => by
        have t1 := to_at h nm hs
        have gs := (LD.go_at h nm hs).2
        have dg : dIx DD (.str (T (go S M n s))) = some (.val (.str (T (tw S M p m (go S M n s))))) := by rw [hDD, te]; exact dT_get (fun s => D.str (T (tw S M p m s))) gs
        rw [← hIM] at t1
        have wa2 : dIx WY (.str (T n)) = some (.val IM) := by rw [hWY, hIM]; exact wa
        rw [tws]
        simp [_law_met_ce2, hcap, wa2, t1, dg]
      rw [show (S.map fun l => D.str (T l)) = txs S from rfl] at lc
      obtain ⟨DE, hDE⟩ : ∃ z, z = dT S (txs (tailLed S M p (m + 1))) := ⟨_, rfl⟩
      rw [← hDE] at dz
      have hDE2 : D.dic (dT S (txs (tailLed S M p (m + 1)))) = .dic DE := by rw [hDE]
      rw [hDE2] at fn fin2
      rw [← hW, ← hWY] at fn fin2
      rw [← hW] at w0
      rw [← hW, ← hWY, ← hDD]
      have c1 : ((m + 1 : Nat) : Int) = (m : Int) + 1 := by omega
      rw [c1] at fn fin2
      obtain ⟨TS, hTS⟩ : ∃ z, z = txs S := ⟨_, rfl⟩
      rw [← hTS] at w0 lc tsS
      simp -implicitDefEqProofs [fb1_eq, es, ne1, w0, tsS, lc, dz, hcap, sl]
      exact fn.mono fun o ho => by simpa using fin2 o ho
  · obtain ⟨hm1, hm2, hm3⟩ := hm
    have ln : (txs ([] :: p.reverse)).length = p.length + 1 := by simp [txs]
    rw [ln] at hm3
    have : meet S M p = none := find_none fun k hk => by simpa using hm3 k (by simpa using hk)
    have : mt S M p = .non := by unfold KN.mt; rw [this]; rfl
    rw [this]
    simp -implicitDefEqProofs
end
end KW

set_option Elab.async false
set_option linter.all false
set_option maxRecDepth 100000
set_option maxHeartbeats 4000000
namespace K61
open PySem L2 DL WA LD LE OR KN
/-- what is told of a past -/
def tdL (S : List Nm) (M : List MoveL) (p : List Nm) : List D := [.tup (txs p), .tup (txs (led S M p)), mt S M p]
structure Wb (S : List Nm) (M : List MoveL) : Prop where
  h : W0 S M
  h0 : 1 ≤ S.length
  m1 : 1 ≤ M.length
  m8 : M.length ≤ 8
  hs : ∀ x ∈ S, Small x
  hn : ∀ x ∈ M.map MoveL.name, Small x
  ne : ∀ x ∈ M.map MoveL.name, x ≠ []
section
variable {S : List Nm} {M : List MoveL} (w : Wb S M)
include w
theorem td_ok {p : List Nm} (hp : ∀ n ∈ p, n ∈ M.map MoveL.name) : okD 8 (.lst (tdL S M p)) = true := by
  have a1 : okD 7 (.tup (txs p)) = true := ok_tx fun x hx => w.hn x (hp x hx)
  have a2 : okD 7 (.tup (txs (led S M p))) = true := ok_tx fun x hx => w.hs x (led_mem w.h hp x hx)
  have a3 : okD 7 (mt S M p) = true := by
    rcases mt_cases w.h w.h0 hp with e | ⟨x, k, A⟩
    · rw [e]; rfl
    · rw [A.e]
      have := strOk_T (w.hs x A.m)
      simp [okD, this]
  show ([D.tup (txs p), .tup (txs (led S M p)), mt S M p].all (okD 7)) = true
  simp [a1, a2, a3]
theorem as_due {p : List Nm} (hp : ∀ n ∈ p, n ∈ M.map MoveL.name) (hl : p.length ≤ 100) :
    f__law_as_due [.ins 0 (ke (webD S M) (.tup (txs p))), webD S M, .tup (txs p)] = some (.bl true, .ins 0 (ke (webD S M) (.tup (txs p)))) := by
  have hcap : cap = 1000000 := rfl
  have l1 := KN.leads_spec (LD.led_spec w.h hp)
  have m1 := KN.met_spec (KN.met_eq w.h w.h0 hp (by omega))
  have p1 := KN.past_spec (webD S M) (.tup (txs p))
  have t1 := two_ke (webD S M) (.tup (txs p))
  have ne := ne_me (td_ok w hp)
  have tl : [D.tup (txs p), .tup (txs (led S M p)), mt S M p] = tdL S M p := rfl
  have tdl : (tdL S M p).length ≤ 1000000 := by show 3 ≤ 1000000; omega
  have e1 := KW.led_spec w.h hp
  have e2 := KW.met_spec w.h w.h0 hp w.ne (by omega)
  have g0 : dIx (.lst (tdL S M p)) (.int 0) = some (.val (.tup (txs p))) := by unfold tdL; simp
  have g1 : dIx (.lst (tdL S M p)) (.int 1) = some (.val (.tup (txs (led S M p)))) := by unfold tdL; simp
  have g2 : dIx (.lst (tdL S M p)) (.int 2) = some (.val (mt S M p)) := by unfold tdL; simp
  have mc : mt S M p = .non ∨ ∃ (x : Nm) (k : Nat), mt S M p = .tup [.str (T x), .int (k : Nat)] := by
    rcases mt_cases w.h w.h0 hp with e | ⟨x, k, A⟩
    · exact .inl e
    · exact .inr ⟨x, k, A.e⟩
  have dn : dIs .non .non = some (.val (.bl true)) := rfl
  have dt : ∀ l : List D, dIs (.tup l) .non = some (.val (.bl false)) := fun _ => rfl
  have en : en1 4 0 [.ins 0 (ke (webD S M) (.tup (txs p))), webD S M, .tup (txs p)] = [some (.ow true (.ins 0 (ke (webD S M) (.tup (txs p))))), some (.fz (webD S M)), some (.fz (.tup (txs p))), none] := rfl
  unfold f__law_as_due fnB m__law_as_due
  rw [en]
  obtain ⟨W, hW⟩ : ∃ W, W = webD S M := ⟨_, rfl⟩
  obtain ⟨K1, hK1⟩ : ∃ K, K = ke (webD S M) (.tup (txs p)) := ⟨_, rfl⟩
  rw [← hK1] at l1 m1 p1 t1 ⊢
  rw [← hW] at e1 e2 ⊢
  obtain ⟨TD, hTD⟩ : ∃ z, z = tdL S M p := ⟨_, rfl⟩
  rw [← hTD] at ne tl tdl g0 g1 g2
  obtain ⟨X3, hX3⟩ : ∃ z, z = mt S M p := ⟨_, rfl⟩
  rw [← hX3] at m1 tl e2 g2 mc
  obtain ⟨P1, hP1⟩ : ∃ z, z = txs p := ⟨_, rfl⟩
  obtain ⟨P2, hP2⟩ : ∃ z, z = txs (led S M p) := ⟨_, rfl⟩
  rw [← hP1] at p1 tl e1 e2 g0 ⊢
  rw [← hP2] at l1 tl e1 g1
  rcases mc with rfl | ⟨x, k, rfl⟩ <;> simp -implicitDefEqProofs [t1, l1, m1, p1, tl, tdl, e1, e2, ne, g0, g1, g2, dn, dt, hcap, owAt]
end
end K61

set_option Elab.async false
set_option linter.all false
set_option maxRecDepth 100000
set_option maxHeartbeats 4000000
namespace K61
open PySem L2 DL WA LD LE OR KN
def rT (ns : List Int) (W0 W1 : D) (K0 K1 : List (Str × D)) (X0 X1 : D) : En := [some (.fz (.scr ns)), some (.fz (.lst [W0, W1])), some (.ow false (.nst [.mu (.ins 0 K0), .mu (.ins 0 K1)])), some (.ow false (.lst [X0, X1])), none, none, none, none, none, none, none, none, none]
section
variable {ns : List Int} {i : Nat} {number : Int} {W0 W1 X0 X1 X' md : D} {MD : List D} {nm : Str} {K0 K1 K' : List (Str × D)} {oA : O1}
theorem turn0 (en : KN.f__law_number [.scr ns, .int (221 + (i : Int))] = some (.int number)) (n0 : 0 ≤ number) (n1 : number < 1000000) (c3 : ¬ number % 4 = 3)
    (w1 : dIx W0 (.int 1) = some (.val (.tup MD))) (ml : MD.length ≤ 8) (mpos : 1 ≤ MD.length) (hat : atI MD (number / 8 % (MD.length : Int)) = some md) (mx : dIx md (.int 0) = some (.val (.str nm))) (tw : twoF K0 = true)
    (bk : number / 4 % 2 = 0 → KN.f_kd_put_back [.ins 0 K0, .str nm] = some (.non, .ins 0 K') ∧ dAdd (.tup [.str nm]) X0 = some oA ∧ oA.d = X')
    (nw : ¬ number / 4 % 2 = 0 → KN.f_kd_put_now [.ins 0 K0, .str nm] = some (.non, .ins 0 K') ∧ dAdd X0 (.tup [.str nm]) = some oA ∧ oA.d = X')
    (d0 : f__law_as_due [.ins 0 K', W0, X'] = some (.bl true, .ins 0 K')) (d1 : f__law_as_due [.ins 0 K1, W1, X1] = some (.bl true, .ins 0 K1)) :
    Wp (mGName 5 (.int (i : Nat)) (rT ns W0 W1 K0 K1 X0 X1)) fun ρ1 => Wp (law_fb1 ρ1) fun o => o = .nx (rT ns W0 W1 K' K1 X' X1) := by
  have hcap : cap = 1000000 := rfl
  have M4 : modOk number 4 = true := modOk_of (by omega)
  have D8 : divOk number 8 = true := divOk64 (by omega)
  have D4 : divOk number 4 = true := divOk64 (by omega)
  have M2 : modOk (number / 4) 2 = true := modOk_of (by omega)
  have M7 : modOk (i : Int) 7 = true := modOk_of (by omega)
  have ML : modOk (number / 8) (MD.length : Int) = true := modOk_of (by omega)
  have dL : dLen (.tup MD) = some (.val (.int (MD.length : Nat))) := by simp
  have i1 : dIsNot .non .non = some (.val (.bl false)) := rfl
  have x0 : ixN 2 0 = some 0 := rfl
  have x1 : ixN 2 1 = some 1 := rfl
  unfold rT
  by_cases c : number / 4 % 2 = 0
  · obtain ⟨b1, b2, b3⟩ := bk c
    by_cases t : (i : Int) % 7 = 0 <;> simp -implicitDefEqProofs [law_fb1, en, M4, D8, D4, M2, M7, ML, dL, c3, c, t, w1, hat, mx, tw, b1, b2, b3, d0, d1, i1, x0, x1, hcap]
  · obtain ⟨b1, b2, b3⟩ := nw c
    by_cases t : (i : Int) % 7 = 0 <;> simp -implicitDefEqProofs [law_fb1, en, M4, D8, D4, M2, M7, ML, dL, c3, c, t, w1, hat, mx, tw, b1, b2, b3, d0, d1, i1, x0, x1, hcap]
theorem turn1 (en : KN.f__law_number [.scr ns, .int (221 + (i : Int))] = some (.int number)) (n0 : 0 ≤ number) (n1 : number < 1000000) (c3 : number % 4 = 3)
    (w1 : dIx W1 (.int 1) = some (.val (.tup MD))) (ml : MD.length ≤ 8) (mpos : 1 ≤ MD.length) (hat : atI MD (number / 8 % (MD.length : Int)) = some md) (mx : dIx md (.int 0) = some (.val (.str nm))) (tw : twoF K1 = true)
    (bk : number / 4 % 2 = 0 → KN.f_kd_put_back [.ins 0 K1, .str nm] = some (.non, .ins 0 K') ∧ dAdd (.tup [.str nm]) X1 = some oA ∧ oA.d = X')
    (nw : ¬ number / 4 % 2 = 0 → KN.f_kd_put_now [.ins 0 K1, .str nm] = some (.non, .ins 0 K') ∧ dAdd X1 (.tup [.str nm]) = some oA ∧ oA.d = X')
    (d0 : f__law_as_due [.ins 0 K0, W0, X0] = some (.bl true, .ins 0 K0)) (d1 : f__law_as_due [.ins 0 K', W1, X'] = some (.bl true, .ins 0 K')) :
    Wp (mGName 5 (.int (i : Nat)) (rT ns W0 W1 K0 K1 X0 X1)) fun ρ1 => Wp (law_fb1 ρ1) fun o => o = .nx (rT ns W0 W1 K0 K' X0 X') := by
  have hcap : cap = 1000000 := rfl
  have M4 : modOk number 4 = true := modOk_of (by omega)
  have D8 : divOk number 8 = true := divOk64 (by omega)
  have D4 : divOk number 4 = true := divOk64 (by omega)
  have M2 : modOk (number / 4) 2 = true := modOk_of (by omega)
  have M7 : modOk (i : Int) 7 = true := modOk_of (by omega)
  have ML : modOk (number / 8) (MD.length : Int) = true := modOk_of (by omega)
  have dL : dLen (.tup MD) = some (.val (.int (MD.length : Nat))) := by simp
  have i1 : dIsNot .non .non = some (.val (.bl false)) := rfl
  have x0 : ixN 2 0 = some 0 := rfl
  have x1 : ixN 2 1 = some 1 := rfl
  unfold rT
  by_cases c : number / 4 % 2 = 0
  · obtain ⟨b1, b2, b3⟩ := bk c
    by_cases t : (i : Int) % 7 = 0 <;> simp -implicitDefEqProofs [law_fb1, en, M4, D8, D4, M2, M7, ML, dL, c3, c, t, w1, hat, mx, tw, b1, b2, b3, d0, d1, i1, x0, x1, hcap]
  · obtain ⟨b1, b2, b3⟩ := nw c
    by_cases t : (i : Int) % 7 = 0 <;> simp -implicitDefEqProofs [law_fb1, en, M4, D8, D4, M2, M7, ML, dL, c3, c, t, w1, hat, mx, tw, b1, b2, b3, d0, d1, i1, x0, x1, hcap]
end
/-- what a turn does with one web -/
theorem deed {S : List Nm} {M : List MoveL} (w : Wb S M) {p : List Nm} (hp : ∀ n ∈ p, n ∈ M.map MoveL.name) (hl : p.length ≤ 90) {number : Int} (n0 : 0 ≤ number) :
    ∃ (md : D) (nm : Nm) (p' : List Nm) (oA : O1), dIx (webD S M) (.int 1) = some (.val (.tup (M.map MoveL.D))) ∧ (M.map MoveL.D).length ≤ 8 ∧ 1 ≤ (M.map MoveL.D).length ∧ atI (M.map MoveL.D) (number / 8 % ((M.map MoveL.D).length : Int)) = some md ∧ dIx md (.int 0) = some (.val (.str (T nm))) ∧
      (number / 4 % 2 = 0 → KN.f_kd_put_back [.ins 0 (ke (webD S M) (.tup (txs p))), .str (T nm)] = some (.non, .ins 0 (ke (webD S M) (.tup (txs p')))) ∧ dAdd (.tup [.str (T nm)]) (.tup (txs p)) = some oA ∧ oA.d = .tup (txs p')) ∧
      (¬ number / 4 % 2 = 0 → KN.f_kd_put_now [.ins 0 (ke (webD S M) (.tup (txs p))), .str (T nm)] = some (.non, .ins 0 (ke (webD S M) (.tup (txs p')))) ∧ dAdd (.tup (txs p)) (.tup [.str (T nm)]) = some oA ∧ oA.d = .tup (txs p')) ∧
      (∀ n ∈ p', n ∈ M.map MoveL.name) ∧ p'.length = p.length + 1 := by
  have m1 := w.m1
  have m8 := w.m8
  have hml : (M.map MoveL.D).length = M.length := List.length_map ..
  have q0 := Int.emod_nonneg (number / 8) (b := (M.length : Int)) (by omega)
  have q1 := Int.emod_lt_of_pos (number / 8) (b := (M.length : Int)) (by omega)
  obtain ⟨m, y1, y2, _⟩ := atI_some (xs := M) q0 q1
  have mn : m.name ∈ M.map MoveL.name := List.mem_map.mpr ⟨m, y2, rfl⟩
  have ld : LD.f_led_by [webD S M, .tup [.str (T m.name)]] = some (.tup (txs (led S M [m.name]))) := LD.led_spec (past := [m.name]) w.h fun n hn => by rw [List.mem_singleton.mp hn]; exact mn
  have w1 : dIx (webD S M) (.int 1) = some (.val (.tup (M.map MoveL.D))) := by unfold webD; simp
  have mx : dIx m.D (.int 0) = some (.val (.str (T m.name))) := by unfold MoveL.D; simp
  have hat : atI (M.map MoveL.D) (number / 8 % ((M.map MoveL.D).length : Int)) = some m.D := by rw [hml, atI_map, y1]; rfl
  by_cases c : number / 4 % 2 = 0
  · obtain ⟨oA, eA, dA⟩ := KN.add_txs (a := [m.name]) (b := p) (by simp; omega)
    refine ⟨m.D, m.name, m.name :: p, oA, w1, by omega, by omega, hat, mx, fun _ => ⟨KN.back_spec ld (by omega), eA, dA⟩, fun h => absurd c h, fun n hn => ?_, rfl⟩
    rcases List.mem_cons.mp hn with e | e
    · rw [e]; exact mn
    · exact hp n e
  · obtain ⟨oB, eB, dB⟩ := KN.add_txs (a := p) (b := [m.name]) (by simp; omega)
    refine ⟨m.D, m.name, p ++ [m.name], oB, w1, by omega, by omega, hat, mx, fun h => absurd h c, fun _ => ⟨KN.now_spec ld (by omega), eB, dB⟩, fun n hn => ?_, by simp⟩
    rcases List.mem_append.mp hn with e | e
    · exact hp n e
    · rw [List.mem_singleton.mp e]; exact mn
theorem wb_of {S : List Nm} {M : List MoveL} (hw : WebOk 8 S M) : Wb S M := by
  have s1 := hw.s1
  exact ⟨W0.of hw (by omega), hw.s0, hw.m0, hw.m1, fun x hx => small_letters (hw.sna x hx).2.2, fun x hx => by
    obtain ⟨m, hm, rfl⟩ := List.mem_map.mp hx
    exact small_letters (hw.mok m hm).1.2.2, fun x hx => by
    obtain ⟨m, hm, rfl⟩ := List.mem_map.mp hx
    intro e
    have := (hw.mok m hm).1.1
    rw [e] at this
    simp at this⟩
structure Ps (S0 S1 : List Nm) (M0 M1 : List MoveL) (i : Nat) (s : List Nm × List Nm) : Prop where
  a : ∀ n ∈ s.1, n ∈ M0.map MoveL.name
  b : ∀ n ∈ s.2, n ∈ M1.map MoveL.name
  l : s.1.length + s.2.length ≤ i
theorem law_true (ns : List Int) (hl : ns.length ≤ 63) : f_law [.scr ns] = some (.bl true) := by
  have hcap : cap = 1000000 := rfl
  obtain ⟨_, e0, S0, M0, rfl, hw0, _, _, _⟩ := KN.web_specN ns hl (start := 0) (by omega) (by omega) (most := 8) (moves := 8) (by omega) (by omega) (by omega) (by omega)
  obtain ⟨_, e1, S1, M1, rfl, hw1, _, _, _⟩ := KN.web_specN ns hl (start := 110) (by omega) (by omega) (most := 8) (moves := 8) (by omega) (by omega) (by omega) (by omega)
  have e0 : KN.f__law_web [.scr ns, .int 0, .int 8, .int 8] = some (webD S0 M0) := e0
  have e1 : KN.f__law_web [.scr ns, .int 110, .int 8, .int 8] = some (webD S1 M1) := e1
  have w0 := wb_of hw0
  have w1 := wb_of hw1
  obtain ⟨_, eh, head, rfl, h0, h1⟩ := number_spec ns hl (k := 220) (by omega) (by omega)
  have M8 : modOk head 8 = true := modOk_of (by omega)
  have D8 : divOk head 8 = true := divOk64 (by omega)
  have M31 : modOk (head / 8) 31 = true := modOk_of (by omega)
  obtain ⟨many, hmany, m60⟩ : ∃ k : Nat, atI [D.int (head / 8 % 31), .int 60] (if head % 8 = 0 then 1 else 0) = some (.int (k : Nat)) ∧ k ≤ 60 := by
    by_cases c : head % 8 = 0
    · rw [if_pos c]; exact ⟨60, rfl, by omega⟩
    · rw [if_neg c]
      refine ⟨(head / 8 % 31).toNat, ?_, by omega⟩
      rw [show (((head / 8 % 31).toNat : Nat) : Int) = head / 8 % 31 by omega]; rfl
  have di : dInt (.bl (decide (head % 8 = 0))) = some (.val (.int (if head % 8 = 0 then 1 else 0))) := by
    by_cases c : head % 8 = 0
    · rw [decide_eq_true c, if_pos c]; rfl
    · rw [decide_eq_false c, if_neg c]; rfl
  obtain ⟨ix, hix⟩ : ∃ ix : Int, ix = if head % 8 = 0 then 1 else 0 := ⟨_, rfl⟩
  obtain ⟨bb, hbb⟩ : ∃ b, b = decide (head % 8 = 0) := ⟨_, rfl⟩
  rw [← hix] at hmany di
  rw [← hbb] at di
  have de : dEq (.int (head % 8)) (.int 0) = some (.val (.bl bb)) := by
    show some (O1.val (.bl (decide (head % 8 = 0)))) = _
    rw [hbb]
  have rg := rng1_n (n := many) (by omega)
  have i0 := init_spec (webD S0 M0)
  have i1 := init_spec (webD S1 M1)
  have du0 : f__law_as_due [.ins 0 (ke (webD S0 M0) (.tup [])), webD S0 M0, .tup []] = some (.bl true, .ins 0 (ke (webD S0 M0) (.tup []))) := as_due w0 (p := []) (by simp) (by simp)
  have du1 : f__law_as_due [.ins 0 (ke (webD S1 M1) (.tup [])), webD S1 M1, .tup []] = some (.bl true, .ins 0 (ke (webD S1 M1) (.tup []))) := as_due w1 (p := []) (by simp) (by simp)
  have ts : ∀ (i : Nat) (s : List Nm × List Nm), i < 1000 → i < 60 → Ps S0 S1 M0 M1 i s → Wp (mGName 5 (.int (i : Nat)) (rT ns (webD S0 M0) (webD S1 M1) (ke (webD S0 M0) (.tup (txs s.1))) (ke (webD S1 M1) (.tup (txs s.2))) (.tup (txs s.1)) (.tup (txs s.2)))) fun ρ1 => Wp (law_fb1 ρ1) fun o =>
      ∃ s', o = .nx (rT ns (webD S0 M0) (webD S1 M1) (ke (webD S0 M0) (.tup (txs s'.1))) (ke (webD S1 M1) (.tup (txs s'.2))) (.tup (txs s'.1)) (.tup (txs s'.2))) ∧ Ps S0 S1 M0 M1 (i + 1) s' := fun i s hi hi2 hs => by
    obtain ⟨ha, hb, hll⟩ := hs
    obtain ⟨_, en, number, rfl, n0, n1⟩ := number_spec ns hl (k := 221 + (i : Int)) (by omega) (by omega)
    by_cases c : number % 4 = 3
    · obtain ⟨md, nm, p', oA, f1, f2, f3, f4, f5, f6, f7, f8, f9⟩ := deed w1 hb (by omega) n0
      refine (turn1 en n0 n1 c f1 f2 f3 f4 f5 (two_ke _ _) f6 f7 (as_due w0 ha (by omega)) (as_due w1 f8 (by omega))).mono fun ρ1 h1 => h1.mono fun o ho => ⟨(s.1, p'), ho, ha, f8, by show s.1.length + p'.length ≤ _; omega⟩
    · obtain ⟨md, nm, p', oA, f1, f2, f3, f4, f5, f6, f7, f8, f9⟩ := deed w0 ha (by omega) n0
      refine (turn0 en n0 n1 c f1 f2 f3 f4 f5 (two_ke _ _) f6 f7 (as_due w0 f8 (by omega)) (as_due w1 hb (by omega))).mono fun ρ1 h1 => h1.mono fun o ho => ⟨(p', s.2), ho, f8, hb, by show p'.length + s.2.length ≤ _; omega⟩
  unfold rT at ts
  obtain ⟨V0, hV0⟩ : ∃ W, W = webD S0 M0 := ⟨_, rfl⟩
  obtain ⟨V1, hV1⟩ : ∃ W, W = webD S1 M1 := ⟨_, rfl⟩
  obtain ⟨K0, hK0⟩ : ∃ K, K = ke (webD S0 M0) (.tup []) := ⟨_, rfl⟩
  obtain ⟨K1, hK1⟩ : ∃ K, K = ke (webD S1 M1) (.tup []) := ⟨_, rfl⟩
  rw [← hK0] at i0 du0
  rw [← hK1] at i1 du1
  rw [← hV0] at e0 i0 du0
  rw [← hV1] at e1 i1 du1
  simp only [← hV0, ← hV1] at ts
  have rg2 : rng1 [.int 2] = some [.int 0, .int 1] := by
    have := rng1_n (n := 2) (by omega)
    rw [show ((2 : Nat) : Int) = 2 from rfl] at this
    rw [this]; rfl
  have u0 : mulOk 110 0 = true := mulOk64 (by omega) (by omega)
  have u1 : mulOk 110 1 = true := mulOk64 (by omega) (by omega)
  have x0 : ixN 2 0 = some 0 := rfl
  have x1 : ixN 2 1 = some 1 := rfl
  have tw0 := two_ke (webD S0 M0) (.tup [])
  have lcw : lcL (mGName 10) [10] mYes law_ce1 [.int 0, .int 1] [some (.fz (.scr ns)), none, none, none, none, none, none, none, none, none, none, none, none] = some ([V0, V1], [some (.fz (.scr ns)), none, none, none, none, none, none, none, none, none, none, none, none]) := by
    simp -implicitDefEqProofs [lcL_cons, lc1, law_ce1, e0, e1, u0, u1, lcL]
  unfold f_law fnP m_law
  rw [wp_eq_iff]
  simp -implicitDefEqProofs [en0, rg2, lcw, i0, i1, x0, x1, du0, du1, eh, M8, D8, M31, de, di, hmany, rg, -rng1_eq, -dEq_int, hcap]
  refine wp_for (S := List Nm × List Nm) (fun s => [(2, .ow false (.nst [.mu (.ins 0 (ke V0 (.tup (txs s.1)))), .mu (.ins 0 (ke V1 (.tup (txs s.2))))])), (3, .ow false (.lst [.tup (txs s.1), .tup (txs s.2)]))]) (fun i s => Ps S0 S1 M0 M1 i s) ([], []) ?_ ⟨by simp, by simp, by simp⟩ (fun i x s hx hs => ?_) (fun s hs => ?_)
  · rw [hK0, hK1, hV0, hV1]; rfl
  · have hi : i < many := by have := (List.getElem?_eq_some_iff.mp hx).1; simpa using this
    have ex : x = .int (i : Nat) := by
      rw [List.getElem?_map, List.getElem?_range hi] at hx
      exact (Option.some.inj hx).symm
    subst ex
    refine (ts i s (by omega) (by omega) hs).mono fun ρ1 h1 => h1.mono fun o ⟨s', ho, hs'⟩ => ?_
    subst ho
    exact ⟨s', rfl, hs'⟩
  · simp -implicitDefEqProofs
end K61

set_option Elab.async false
set_option linter.all false
set_option maxRecDepth 100000
namespace K61
open PySem PySem.Spec PyProof.Rows L2 DL
/-! ### what the top has written -/
theorem all_mk {l : PySem.W.OpenLaw} {w : World} {K : PySem.W.Frag} {h : Heap} {mg : Str → Option Value} {fa : Addr} (X : K.In h) (G : h.Ns mainGlobals mg) (hfa : mg "law" = some (.ref fa))
    {C_kd : Addr} (A_kd : PySem.W.nsIn K mainGlobals "KeptDraw" = some (some (.ref C_kd)))
    {f0 : Addr} {od0 an0 : Option Addr} {sl0 : Array (Option Value)} {oc0 kV0 dc0 pm0 cd0 ct0 : Value}
    (a0 : PySem.W.nsIn K mainGlobals "ways_of" = some (some (.ref f0))) (l0 : K.lookup f0 = some ⟨oc0, od0, .func (PySem.W.fnOf "ways_of" "ways_of" (defArgs s_ways_of) (defBody s_ways_of) (defScope s_ways_of) .none kV0 dc0 pm0 an0 cd0 ct0), sl0⟩) (c0 : PySem.W.codeIn K cd0 "ways_of" = true) (k0 : PySem.W.keepIn K (.ref f0) = true)
    {f1 : Addr} {od1 an1 : Option Addr} {sl1 : Array (Option Value)} {oc1 kV1 dc1 pm1 cd1 ct1 : Value}
    (m1 : PySem.W.findIn K (.ref C_kd) "__init__" = some (some (.ref f1)))
    (l1 : K.lookup f1 = some ⟨oc1, od1, .func (PySem.W.fnOf "__init__" "KeptDraw.__init__" (defArgs s_kd_init) (defBody s_kd_init) (defScope s_kd_init) .none kV1 dc1 pm1 an1 cd1 ct1), sl1⟩) (c1 : PySem.W.codeIn K cd1 "KeptDraw.__init__" = true) (k1 : PySem.W.keepIn K (.ref f1) = true) (i1 : PySem.W.isFn K (.ref f1) = true)
    {f2 : Addr} {od2 an2 : Option Addr} {sl2 : Array (Option Value)} {oc2 kV2 dc2 pm2 cd2 ct2 : Value}
    (m2 : PySem.W.findIn K (.ref C_kd) "past_now" = some (some (.ref f2)))
    (l2 : K.lookup f2 = some ⟨oc2, od2, .func (PySem.W.fnOf "past_now" "KeptDraw.past_now" (defArgs s_kd_past_now) (defBody s_kd_past_now) (defScope s_kd_past_now) .none kV2 dc2 pm2 an2 cd2 ct2), sl2⟩) (c2 : PySem.W.codeIn K cd2 "KeptDraw.past_now" = true) (k2 : PySem.W.keepIn K (.ref f2) = true) (i2 : PySem.W.isFn K (.ref f2) = true)
    {f3 : Addr} {od3 an3 : Option Addr} {sl3 : Array (Option Value)} {oc3 kV3 dc3 pm3 cd3 ct3 : Value}
    (a3 : PySem.W.nsIn K mainGlobals "_law_number" = some (some (.ref f3))) (l3 : K.lookup f3 = some ⟨oc3, od3, .func (PySem.W.fnOf "_law_number" "_law_number" (defArgs s__law_number) (defBody s__law_number) (defScope s__law_number) .none kV3 dc3 pm3 an3 cd3 ct3), sl3⟩) (c3 : PySem.W.codeIn K cd3 "_law_number" = true) (k3 : PySem.W.keepIn K (.ref f3) = true)
    {f4 : Addr} {od4 an4 : Option Addr} {sl4 : Array (Option Value)} {oc4 kV4 dc4 pm4 cd4 ct4 : Value}
    (a4 : PySem.W.nsIn K mainGlobals "_law_ways" = some (some (.ref f4))) (l4 : K.lookup f4 = some ⟨oc4, od4, .func (PySem.W.fnOf "_law_ways" "_law_ways" (defArgs s__law_ways) (defBody s__law_ways) (defScope s__law_ways) .none kV4 dc4 pm4 an4 cd4 ct4), sl4⟩) (c4 : PySem.W.codeIn K cd4 "_law_ways" = true) (k4 : PySem.W.keepIn K (.ref f4) = true)
    {f5 : Addr} {od5 an5 : Option Addr} {sl5 : Array (Option Value)} {oc5 kV5 dc5 pm5 cd5 ct5 : Value}
    (a5 : PySem.W.nsIn K mainGlobals "led_by" = some (some (.ref f5))) (l5 : K.lookup f5 = some ⟨oc5, od5, .func (PySem.W.fnOf "led_by" "led_by" (defArgs s_led_by) (defBody s_led_by) (defScope s_led_by) .none kV5 dc5 pm5 an5 cd5 ct5), sl5⟩) (c5 : PySem.W.codeIn K cd5 "led_by" = true) (k5 : PySem.W.keepIn K (.ref f5) = true)
    {f6 : Addr} {od6 an6 : Option Addr} {sl6 : Array (Option Value)} {oc6 kV6 dc6 pm6 cd6 ct6 : Value}
    (a6 : PySem.W.nsIn K mainGlobals "_law_names" = some (some (.ref f6))) (l6 : K.lookup f6 = some ⟨oc6, od6, .func (PySem.W.fnOf "_law_names" "_law_names" (defArgs s__law_names) (defBody s__law_names) (defScope s__law_names) .none kV6 dc6 pm6 an6 cd6 ct6), sl6⟩) (c6 : PySem.W.codeIn K cd6 "_law_names" = true) (k6 : PySem.W.keepIn K (.ref f6) = true)
    {f7 : Addr} {od7 an7 : Option Addr} {sl7 : Array (Option Value)} {oc7 kV7 dc7 pm7 cd7 ct7 : Value}
    (a7 : PySem.W.nsIn K mainGlobals "_law_led" = some (some (.ref f7))) (l7 : K.lookup f7 = some ⟨oc7, od7, .func (PySem.W.fnOf "_law_led" "_law_led" (defArgs s__law_led) (defBody s__law_led) (defScope s__law_led) .none kV7 dc7 pm7 an7 cd7 ct7), sl7⟩) (c7 : PySem.W.codeIn K cd7 "_law_led" = true) (k7 : PySem.W.keepIn K (.ref f7) = true)
    {f8 : Addr} {od8 an8 : Option Addr} {sl8 : Array (Option Value)} {oc8 kV8 dc8 pm8 cd8 ct8 : Value}
    (a8 : PySem.W.nsIn K mainGlobals "_law_met" = some (some (.ref f8))) (l8 : K.lookup f8 = some ⟨oc8, od8, .func (PySem.W.fnOf "_law_met" "_law_met" (defArgs s__law_met) (defBody s__law_met) (defScope s__law_met) .none kV8 dc8 pm8 an8 cd8 ct8), sl8⟩) (c8 : PySem.W.codeIn K cd8 "_law_met" = true) (k8 : PySem.W.keepIn K (.ref f8) = true)
    {f9 : Addr} {od9 an9 : Option Addr} {sl9 : Array (Option Value)} {oc9 kV9 dc9 pm9 cd9 ct9 : Value}
    (a9 : PySem.W.nsIn K mainGlobals "met_by" = some (some (.ref f9))) (l9 : K.lookup f9 = some ⟨oc9, od9, .func (PySem.W.fnOf "met_by" "met_by" (defArgs s_met_by) (defBody s_met_by) (defScope s_met_by) .none kV9 dc9 pm9 an9 cd9 ct9), sl9⟩) (c9 : PySem.W.codeIn K cd9 "met_by" = true) (k9 : PySem.W.keepIn K (.ref f9) = true)
    {f10 : Addr} {od10 an10 : Option Addr} {sl10 : Array (Option Value)} {oc10 kV10 dc10 pm10 cd10 ct10 : Value}
    (m10 : PySem.W.findIn K (.ref C_kd) "put_back" = some (some (.ref f10)))
    (l10 : K.lookup f10 = some ⟨oc10, od10, .func (PySem.W.fnOf "put_back" "KeptDraw.put_back" (defArgs s_kd_put_back) (defBody s_kd_put_back) (defScope s_kd_put_back) .none kV10 dc10 pm10 an10 cd10 ct10), sl10⟩) (c10 : PySem.W.codeIn K cd10 "KeptDraw.put_back" = true) (k10 : PySem.W.keepIn K (.ref f10) = true) (i10 : PySem.W.isFn K (.ref f10) = true)
    {f11 : Addr} {od11 an11 : Option Addr} {sl11 : Array (Option Value)} {oc11 kV11 dc11 pm11 cd11 ct11 : Value}
    (m11 : PySem.W.findIn K (.ref C_kd) "put_now" = some (some (.ref f11)))
    (l11 : K.lookup f11 = some ⟨oc11, od11, .func (PySem.W.fnOf "put_now" "KeptDraw.put_now" (defArgs s_kd_put_now) (defBody s_kd_put_now) (defScope s_kd_put_now) .none kV11 dc11 pm11 an11 cd11 ct11), sl11⟩) (c11 : PySem.W.codeIn K cd11 "KeptDraw.put_now" = true) (k11 : PySem.W.keepIn K (.ref f11) = true) (i11 : PySem.W.isFn K (.ref f11) = true)
    {f12 : Addr} {od12 an12 : Option Addr} {sl12 : Array (Option Value)} {oc12 kV12 dc12 pm12 cd12 ct12 : Value}
    (m12 : PySem.W.findIn K (.ref C_kd) "leads_now" = some (some (.ref f12)))
    (l12 : K.lookup f12 = some ⟨oc12, od12, .func (PySem.W.fnOf "leads_now" "KeptDraw.leads_now" (defArgs s_kd_leads_now) (defBody s_kd_leads_now) (defScope s_kd_leads_now) .none kV12 dc12 pm12 an12 cd12 ct12), sl12⟩) (c12 : PySem.W.codeIn K cd12 "KeptDraw.leads_now" = true) (k12 : PySem.W.keepIn K (.ref f12) = true) (i12 : PySem.W.isFn K (.ref f12) = true)
    {f13 : Addr} {od13 an13 : Option Addr} {sl13 : Array (Option Value)} {oc13 kV13 dc13 pm13 cd13 ct13 : Value}
    (a13 : PySem.W.nsIn K mainGlobals "_law_web" = some (some (.ref f13))) (l13 : K.lookup f13 = some ⟨oc13, od13, .func (PySem.W.fnOf "_law_web" "_law_web" (defArgs s__law_web) (defBody s__law_web) (defScope s__law_web) .none kV13 dc13 pm13 an13 cd13 ct13), sl13⟩) (c13 : PySem.W.codeIn K cd13 "_law_web" = true) (k13 : PySem.W.keepIn K (.ref f13) = true)
    {f14 : Addr} {od14 an14 : Option Addr} {sl14 : Array (Option Value)} {oc14 kV14 dc14 pm14 cd14 ct14 : Value}
    (m14 : PySem.W.findIn K (.ref C_kd) "met_now" = some (some (.ref f14)))
    (l14 : K.lookup f14 = some ⟨oc14, od14, .func (PySem.W.fnOf "met_now" "KeptDraw.met_now" (defArgs s_kd_met_now) (defBody s_kd_met_now) (defScope s_kd_met_now) .none kV14 dc14 pm14 an14 cd14 ct14), sl14⟩) (c14 : PySem.W.codeIn K cd14 "KeptDraw.met_now" = true) (k14 : PySem.W.keepIn K (.ref f14) = true) (i14 : PySem.W.isFn K (.ref f14) = true)
    {f15 : Addr} {od15 an15 : Option Addr} {sl15 : Array (Option Value)} {oc15 kV15 dc15 pm15 cd15 ct15 : Value}
    (a15 : PySem.W.nsIn K mainGlobals "_law_as_due" = some (some (.ref f15))) (l15 : K.lookup f15 = some ⟨oc15, od15, .func (PySem.W.fnOf "_law_as_due" "_law_as_due" (defArgs s__law_as_due) (defBody s__law_as_due) (defScope s__law_as_due) .none kV15 dc15 pm15 an15 cd15 ct15), sl15⟩) (c15 : PySem.W.codeIn K cd15 "_law_as_due" = true) (k15 : PySem.W.keepIn K (.ref f15) = true)
    {f16 : Addr} {od16 an16 : Option Addr} {sl16 : Array (Option Value)} {oc16 kV16 dc16 pm16 cd16 ct16 : Value}
    (a16 : PySem.W.nsIn K mainGlobals "law" = some (some (.ref f16))) (l16 : K.lookup f16 = some ⟨oc16, od16, .func (PySem.W.fnOf "law" "law" (defArgs s_law) (defBody s_law) (defScope s_law) .none kV16 dc16 pm16 an16 cd16 ct16), sl16⟩) (c16 : PySem.W.codeIn K cd16 "law" = true) (k16 : PySem.W.keepIn K (.ref f16) = true)
    (z_bool : PySem.W.nsIn K mainGlobals "bool" = some none)
    (z_dict : PySem.W.nsIn K mainGlobals "dict" = some none)
    (z_enumerate : PySem.W.nsIn K mainGlobals "enumerate" = some none)
    (z_int : PySem.W.nsIn K mainGlobals "int" = some none)
    (z_isinstance : PySem.W.nsIn K mainGlobals "isinstance" = some none)
    (z_len : PySem.W.nsIn K mainGlobals "len" = some none)
    (z_list : PySem.W.nsIn K mainGlobals "list" = some none)
    (z_max : PySem.W.nsIn K mainGlobals "max" = some none)
    (z_min : PySem.W.nsIn K mainGlobals "min" = some none)
    (z_range : PySem.W.nsIn K mainGlobals "range" = some none)
    (z_set : PySem.W.nsIn K mainGlobals "set" = some none)
    (z_tuple : PySem.W.nsIn K mainGlobals "tuple" = some none)
    (z_zip : PySem.W.nsIn K mainGlobals "zip" = some none)
    (pg_kd : PySem.W.plainGet K C_kd PySem.Str.empty = true)
    (hd_kd : PySem.W.hasDictIn K C_kd = true)
    (po_kd : PySem.W.plainOver K C_kd = true)
    (sa_kd : PySem.W.findIn K (.ref C_kd) "__setattr__" = some (some (.builtin "object.__setattr__")))
    (nf_web : PySem.W.findIn K (.ref C_kd) "web" = some none)
    (nf_past : PySem.W.findIn K (.ref C_kd) "past" = some none)
    (mi_kd : PySem.W.makesIn K C_kd = true)
    (kp_kd : PySem.W.keepIn K (.ref C_kd) = true)
    : ∃ fd : FuncData, (∀ (s : Shared) (v : Value), BindsTo s fd ⟨[v], []⟩ [("script", v)]) ∧ ∀ base : Heap, K.In base → base.Ns mainGlobals mg → FnOk l.prog w K mg base CX0 6 fa fd ["script"] (spP K 1 f_law) := by
  have e := hfa.symm.trans (PySem.W.mg_of X G a16)
  cases e
  have F0 := fun_mk (st := s_ways_of) l0 c0 k0
  have b0 := F0.binds (ps := ["web"]) fun _ _ _ _ _ _ us hl => match us, hl with | [_], _ => rfl
  have F1 := fun_mk (st := s_kd_init) l1 c1 k1
  have b1 := F1.binds (ps := ["self", "web"]) fun _ _ _ _ _ _ us hl => match us, hl with | [_, _], _ => rfl
  have F2 := fun_mk (st := s_kd_past_now) l2 c2 k2
  have b2 := F2.binds (ps := ["self"]) fun _ _ _ _ _ _ us hl => match us, hl with | [_], _ => rfl
  have F3 := fun_mk (st := s__law_number) l3 c3 k3
  have b3 := F3.binds (ps := ["script", "k"]) fun _ _ _ _ _ _ us hl => match us, hl with | [_, _], _ => rfl
  have F4 := fun_mk (st := s__law_ways) l4 c4 k4
  have b4 := F4.binds (ps := ["web"]) fun _ _ _ _ _ _ us hl => match us, hl with | [_], _ => rfl
  have F5 := fun_mk (st := s_led_by) l5 c5 k5
  have b5 := F5.binds (ps := ["web", "past"]) fun _ _ _ _ _ _ us hl => match us, hl with | [_, _], _ => rfl
  have F6 := fun_mk (st := s__law_names) l6 c6 k6
  have b6 := F6.binds (ps := ["script", "start", "many"]) fun _ _ _ _ _ _ us hl => match us, hl with | [_, _, _], _ => rfl
  have F7 := fun_mk (st := s__law_led) l7 c7 k7
  have b7 := F7.binds (ps := ["web", "past"]) fun _ _ _ _ _ _ us hl => match us, hl with | [_, _], _ => rfl
  have F8 := fun_mk (st := s__law_met) l8 c8 k8
  have b8 := F8.binds (ps := ["web", "past"]) fun _ _ _ _ _ _ us hl => match us, hl with | [_, _], _ => rfl
  have F9 := fun_mk (st := s_met_by) l9 c9 k9
  have b9 := F9.binds (ps := ["web", "past"]) fun _ _ _ _ _ _ us hl => match us, hl with | [_, _], _ => rfl
  have F10 := fun_mk (st := s_kd_put_back) l10 c10 k10
  have b10 := F10.binds (ps := ["self", "name"]) fun _ _ _ _ _ _ us hl => match us, hl with | [_, _], _ => rfl
  have F11 := fun_mk (st := s_kd_put_now) l11 c11 k11
  have b11 := F11.binds (ps := ["self", "name"]) fun _ _ _ _ _ _ us hl => match us, hl with | [_, _], _ => rfl
  have F12 := fun_mk (st := s_kd_leads_now) l12 c12 k12
  have b12 := F12.binds (ps := ["self"]) fun _ _ _ _ _ _ us hl => match us, hl with | [_], _ => rfl
  have F13 := fun_mk (st := s__law_web) l13 c13 k13
  have b13 := F13.binds (ps := ["script", "start", "most", "moves"]) fun _ _ _ _ _ _ us hl => match us, hl with | [_, _, _, _], _ => rfl
  have F14 := fun_mk (st := s_kd_met_now) l14 c14 k14
  have b14 := F14.binds (ps := ["self"]) fun _ _ _ _ _ _ us hl => match us, hl with | [_], _ => rfl
  have F15 := fun_mk (st := s__law_as_due) l15 c15 k15
  have b15 := F15.binds (ps := ["kept", "web", "past"]) fun _ _ _ _ _ _ us hl => match us, hl with | [_, _, _], _ => rfl
  have F16 := fun_mk (st := s_law) l16 c16 k16
  have b16 := F16.binds (ps := ["script"]) fun _ _ _ _ _ _ us hl => match us, hl with | [_], _ => rfl
  exact ⟨PySem.W.fnOf "law" "law" (defArgs s_law) (defBody s_law) (defScope s_law) .none kV16 dc16 pm16 an16 cd16 ct16, fun s v => .of_eq rfl, fun base _ _ => ok_law (⟨_, _, F0, PySem.W.mg_of X G a0, b0, _, _, F1, b1, _, _, F2, b2, _, _, F3, PySem.W.mg_of X G a3, b3, _, _, F4, PySem.W.mg_of X G a4, b4, _, _, F5, PySem.W.mg_of X G a5, b5, _, _, F6, PySem.W.mg_of X G a6, b6, _, _, F7, PySem.W.mg_of X G a7, b7, _, _, F8, PySem.W.mg_of X G a8, b8, _, _, F9, PySem.W.mg_of X G a9, b9, _, _, F10, b10, _, _, F11, b11, _, _, F12, b12, _, _, F13, PySem.W.mg_of X G a13, b13, _, _, F14, b14, _, _, F15, PySem.W.mg_of X G a15, b15, _, _, F16, PySem.W.mg_of X G a16, b16, _, A_kd, PySem.W.mg_of X G A_kd, ⟨pg_kd, hd_kd, po_kd, sa_kd⟩, nf_web, nf_past, ⟨mi_kd, m1, i1, kp_kd⟩, ⟨m2, i2, k2⟩, ⟨m10, i10, k10⟩, ⟨m11, i11, k11⟩, ⟨m12, i12, k12⟩, ⟨m14, i14, k14⟩, PySem.W.mg_none_of X G z_bool, PySem.W.mg_none_of X G z_dict, PySem.W.mg_none_of X G z_enumerate, PySem.W.mg_none_of X G z_int, PySem.W.mg_none_of X G z_isinstance, PySem.W.mg_none_of X G z_len, PySem.W.mg_none_of X G z_list, PySem.W.mg_none_of X G z_max, PySem.W.mg_none_of X G z_min, PySem.W.mg_none_of X G z_range, PySem.W.mg_none_of X G z_set, PySem.W.mg_none_of X G z_tuple, PySem.W.mg_none_of X G z_zip⟩ : Tx K mg)⟩
end K61
open PySem PySem.W PyProof.Rows
set_option maxRecDepth 100000 in
set_option maxHeartbeats 0 in
theorem PySem.Challenge.cw_walksago_k61_kept_draws_holds : PySem.Challenge.rw_walksago_k61_kept_draws.Holds := by
  w_on; o_law; k_head; (case hw => w_witness2)
  k_fill
  refine L2.walk_of (l := PySem.Challenge.rw_walksago_k61_kept_draws) (n := 63) (k := 6) (x := "script") (CX := fun _ => L2.CX0) (sp := fun w => DL.spP _ 1 K61.f_law) rfl (by decide) rfl ⟨rfl, by decide, by decide⟩ (fun w h Y => PySem.W.kIn_of Y) ?F (fun w H a ns hl ho hS => DL.law_start ho hS (K61.law_true ns hl)) (fun _ _ _ _ _ h => h)
  case F =>
    intro w mg fa h KX G hmg
    refine' K61.all_mk KX G hmg ?A_kd ?a0 ?l0 ?c0 ?k0 ?m1 ?l1 ?c1 ?k1 ?i1 ?m2 ?l2 ?c2 ?k2 ?i2 ?a3 ?l3 ?c3 ?k3 ?a4 ?l4 ?c4 ?k4 ?a5 ?l5 ?c5 ?k5 ?a6 ?l6 ?c6 ?k6 ?a7 ?l7 ?c7 ?k7 ?a8 ?l8 ?c8 ?k8 ?a9 ?l9 ?c9 ?k9 ?m10 ?l10 ?c10 ?k10 ?i10 ?m11 ?l11 ?c11 ?k11 ?i11 ?m12 ?l12 ?c12 ?k12 ?i12 ?a13 ?l13 ?c13 ?k13 ?m14 ?l14 ?c14 ?k14 ?i14 ?a15 ?l15 ?c15 ?k15 ?a16 ?l16 ?c16 ?k16 ?z_bool ?z_dict ?z_enumerate ?z_int ?z_isinstance ?z_len ?z_list ?z_max ?z_min ?z_range ?z_set ?z_tuple ?z_zip ?pg_kd ?hd_kd ?po_kd ?sa_kd ?nf_web ?nf_past ?mi_kd ?kp_kd
    (case A_kd => k_is); (case a0 => k_is); (case l0 => k_is); (case c0 => k_is); (case k0 => k_is); (case m1 => k_is); (case l1 => k_is); (case c1 => k_is); (case k1 => k_is); (case i1 => k_is); (case m2 => k_is); (case l2 => k_is); (case c2 => k_is); (case k2 => k_is); (case i2 => k_is); (case a3 => k_is); (case l3 => k_is); (case c3 => k_is); (case k3 => k_is); (case a4 => k_is); (case l4 => k_is); (case c4 => k_is); (case k4 => k_is); (case a5 => k_is); (case l5 => k_is); (case c5 => k_is); (case k5 => k_is); (case a6 => k_is); (case l6 => k_is); (case c6 => k_is); (case k6 => k_is); (case a7 => k_is); (case l7 => k_is); (case c7 => k_is); (case k7 => k_is); (case a8 => k_is); (case l8 => k_is); (case c8 => k_is); (case k8 => k_is); (case a9 => k_is); (case l9 => k_is); (case c9 => k_is); (case k9 => k_is); (case m10 => k_is); (case l10 => k_is); (case c10 => k_is); (case k10 => k_is); (case i10 => k_is); (case m11 => k_is); (case l11 => k_is); (case c11 => k_is); (case k11 => k_is); (case i11 => k_is); (case m12 => k_is); (case l12 => k_is); (case c12 => k_is); (case k12 => k_is); (case i12 => k_is); (case a13 => k_is); (case l13 => k_is); (case c13 => k_is); (case k13 => k_is); (case m14 => k_is); (case l14 => k_is); (case c14 => k_is); (case k14 => k_is); (case i14 => k_is); (case a15 => k_is); (case l15 => k_is); (case c15 => k_is); (case k15 => k_is); (case a16 => k_is); (case l16 => k_is); (case c16 => k_is); (case k16 => k_is); (case z_bool => k_is); (case z_dict => k_is); (case z_enumerate => k_is); (case z_int => k_is); (case z_isinstance => k_is); (case z_len => k_is); (case z_list => k_is); (case z_max => k_is); (case z_min => k_is); (case z_range => k_is); (case z_set => k_is); (case z_tuple => k_is); (case z_zip => k_is); (case pg_kd => (first | k_is | kernel_rfl)); (case hd_kd => (first | k_is | kernel_rfl)); (case po_kd => (first | k_is | kernel_rfl)); (case sa_kd => (first | k_is | kernel_rfl)); (case nf_web => (first | k_is | kernel_rfl)); (case nf_past => (first | k_is | kernel_rfl)); (case mi_kd => (first | k_is | kernel_rfl)); (case kp_kd => (first | k_is | kernel_rfl))

