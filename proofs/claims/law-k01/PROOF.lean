import PyProof.Rows.All
import Wide.All
import OpenK.AllK
import Wide.FinOn
import PyProof.EqAt
import PyProof.EqKinds
import PyProof.TupleCall
import KE.SortKeyHeap
import HandS.ForMost
import HandS.Exc
import HandS.TryOnly
import HandS.ExcOwn
import HandS.WordsExc
import HandS.Wide
import HandS.IsInst
import HandS.ExcIs
import HandS.ExcField
import HandS.Conv
import HandS.StrMore
import HandS.HeadHook4
import KE.DataCmp
import PyProof.StrBlock2
import HandS.Deep
import PyProof.CollectStr
import PyProof.ListStr
import HandS.WordsDict
import KE.KExcIs
import HandS.SortKw
import HandS.ExcValue
import PyProof.Draws
import PyProof.EnumMake
import HandS.Head0
import HandS.Head1
import HandS.Head2
import HandS.HeadEnd
import HandS.HeadHook1
import HandS.HeadHook2
import HandS.HeadHook3
import HandS.Codes
import KE.SortData
import PySem.Challenge.RW_outweighed_k01_meetings_of_cases
set_option Elab.async false
set_option linter.all false
set_option maxRecDepth 100000
set_option maxHeartbeats 2000000
/-! Ow: a layer of data over the hand layer. Values are data D (trees); a slot is frozen, owned (its object is nobody else's), or borrowed (a caller's object, changed in place). -/
namespace Ow
open PySem PySem.Spec L2
set_option autoImplicit false

inductive D where
  | non | bl (b : Bool) | int (i : Int) | str (x : Str)
  | lst (ds : List D) | tup (ds : List D) | arr (ds : List D) | dK (kvs : List (Key × D)) | obj (c : Str) (fs : List (Str × D)) | ptr (a : Addr)

def dval (ds : List (Key × D)) (k : Key) : Option D := (ds.find? fun kv => decide (kv.1 = k)).map (·.2)
def dput (ds : List (Key × D)) (k : Key) (d : D) : List (Key × D) :=
  if (ds.any fun kv => decide (kv.1 = k)) = true then ds.map (fun kv => if kv.1 = k then (kv.1, d) else kv) else ds ++ [(k, d)]
/-- a list of others (the script, a list of the written part): read alone -/
def Arr (K : PySem.W.Frag) (H : Hp) (a : Addr) (xs : List V) : Prop :=
  (∃ o, H a = some (.frz o (.lst xs))) ∨
    ∃ (o : Obj) (its : Array Value) (n : Nat), K.lookup a = some o ∧ o.cls = .type "list" ∧ o.dict = none ∧ o.data = .seq its n ∧ its.size ≤ sizeLine ∧ Vals xs its.toList
theorem Arr.sq {K : PySem.W.Frag} {H : Hp} {a : Addr} {xs : List V} (h : Arr K H a xs) : SqL K H a xs := by
  rcases h with ⟨o, h⟩ | h
  · exact .inl (.inr ⟨o, h⟩)
  · exact .inr h
mutual
inductive Rep (K : PySem.W.Frag) (F : Addr → Prop) (H : Hp) : V → D → Prop
  | non : Rep K F H .non .non
  | bl (b : Bool) : Rep K F H (.bl b) (.bl b)
  | int (i : Int) : Rep K F H (.int i) (.int i)
  | str (x : Str) : Rep K F H (.str x) (.str x)
  | lst {a : Addr} {xs : List V} {ds : List D} : F a → H a = some (.lst xs) → RepL K F H xs ds → Rep K F H (.ref a) (.lst ds)
  | arr {a : Addr} {xs : List V} {ds : List D} : Arr K H a xs → RepL K F H xs ds → Rep K F H (.ref a) (.arr ds)
  | tup {a : Addr} {xs : List V} {ds : List D} : SqT K H a xs → RepL K F H xs ds → Rep K F H (.ref a) (.tup ds)
  | dK {a : Addr} {kvs : List (Key × V)} {ds : List (Key × D)} : F a → H a = some (.dK kvs) → RepK K F H kvs ds → Rep K F H (.ref a) (.dK ds)
  | obj {a dx : Addr} {c : Str} {fs : List (Str × V)} {ds : List (Str × D)} : F a → H a = some (.ins (He.ga K c) dx fs) → RepF K F H fs ds → Rep K F H (.ref a) (.obj c ds)
  | ptr (a : Addr) : Rep K F H (.ref a) (.ptr a)
inductive RepL (K : PySem.W.Frag) (F : Addr → Prop) (H : Hp) : List V → List D → Prop
  | nil : RepL K F H [] []
  | cons {v : V} {vs : List V} {d : D} {ds : List D} : Rep K F H v d → RepL K F H vs ds → RepL K F H (v :: vs) (d :: ds)
inductive RepK (K : PySem.W.Frag) (F : Addr → Prop) (H : Hp) : List (Key × V) → List (Key × D) → Prop
  | nil : RepK K F H [] []
  | cons {k : Key} {v : V} {vs : List (Key × V)} {d : D} {ds : List (Key × D)} : Rep K F H v d → RepK K F H vs ds → RepK K F H ((k, v) :: vs) ((k, d) :: ds)
inductive RepF (K : PySem.W.Frag) (F : Addr → Prop) (H : Hp) : List (Str × V) → List (Str × D) → Prop
  | nil : RepF K F H [] []
  | cons {k : Str} {v : V} {vs : List (Str × V)} {d : D} {ds : List (Str × D)} : Rep K F H v d → RepF K F H vs ds → RepF K F H ((k, v) :: vs) ((k, d) :: ds)
end


inductive Top (K : PySem.W.Frag) (F : Addr → Prop) (H : Hp) : Addr → D → Prop
  | lst {a : Addr} {xs : List V} {ds : List D} : H a = some (.lst xs) → RepL K F H xs ds → Top K F H a (.lst ds)
  | dK {a : Addr} {kvs : List (Key × V)} {ds : List (Key × D)} : H a = some (.dK kvs) → RepK K F H kvs ds → Top K F H a (.dK ds)
  | obj {a dx : Addr} {c : Str} {fs : List (Str × V)} {ds : List (Str × D)} : H a = some (.ins (He.ga K c) dx fs) → RepF K F H fs ds → Top K F H a (.obj c ds)

/-- a change of the heap that leaves what is frozen -/
structure Keeps (K : PySem.W.Frag) (F : Addr → Prop) (H : Hp) (F' : Addr → Prop) (H' : Hp) : Prop where
  sub : ∀ a, F a → F' a
  fz : ∀ a o, F a → H a = some o → H' a = some o
  tup : ∀ a o, H a = some o → (∃ xs, o = .tup xs) ∨ (∃ ob u, o = .frz ob u) → H' a = some o

section
variable {K : PySem.W.Frag} {F F' F2 : Addr → Prop} {H H' H2 : Hp}
theorem Keeps.refl : Keeps K F H F H := ⟨fun _ h => h, fun _ _ _ h => h, fun _ _ h _ => h⟩
theorem Keeps.trans (a : Keeps K F H F' H') (b : Keeps K F' H' F2 H2) : Keeps K F H F2 H2 :=
  ⟨fun x h => b.sub x (a.sub x h), fun x o f h => b.fz x o (a.sub x f) (a.fz x o f h), fun x o h t => b.tup x o (a.tup x o h t) t⟩
theorem Keeps.more (s : ∀ a, F a → F' a) : Keeps K F H F' H := ⟨s, fun _ _ _ h => h, fun _ _ h _ => h⟩
theorem keep_arr {a : Addr} {xs : List V} (k : Keeps K F H F' H') (h : Arr K H a xs) : Arr K H' a xs := by
  rcases h with ⟨o, h⟩ | h
  · exact .inl ⟨o, k.tup _ _ h (.inr ⟨_, _, rfl⟩)⟩
  · exact .inr h
theorem keep_sqT {a : Addr} {xs : List V} (k : Keeps K F H F' H') (h : SqT K H a xs) : SqT K H' a xs := by
  rcases h with (h | ⟨o, h⟩) | h
  · exact .inl (.inl (k.tup _ _ h (.inl ⟨_, rfl⟩)))
  · exact .inl (.inr ⟨o, k.tup _ _ h (.inr ⟨_, _, rfl⟩)⟩)
  · exact .inr h
mutual
theorem Rep.keep (k : Keeps K F H F' H') : ∀ {v : V} {d : D}, Rep K F H v d → Rep K F' H' v d
  | _, _, .non => .non
  | _, _, .bl b => .bl b
  | _, _, .int b => .int b
  | _, _, .str b => .str b
  | _, _, .lst f s r => .lst (k.sub _ f) (k.fz _ _ f s) (RepL.keep k r)
  | _, _, .arr s r => .arr (keep_arr k s) (RepL.keep k r)
  | _, _, .tup s r => .tup (keep_sqT k s) (RepL.keep k r)
  | _, _, .dK f s r => .dK (k.sub _ f) (k.fz _ _ f s) (RepK.keep k r)
  | _, _, .obj f s r => .obj (k.sub _ f) (k.fz _ _ f s) (RepF.keep k r)
  | _, _, .ptr a => .ptr a
theorem RepL.keep (k : Keeps K F H F' H') : ∀ {v : List V} {d : List D}, RepL K F H v d → RepL K F' H' v d
  | _, _, .nil => .nil
  | _, _, .cons r t => .cons (Rep.keep k r) (RepL.keep k t)
theorem RepK.keep (k : Keeps K F H F' H') : ∀ {v : List (Key × V)} {d : List (Key × D)}, RepK K F H v d → RepK K F' H' v d
  | _, _, .nil => .nil
  | _, _, .cons r t => .cons (Rep.keep k r) (RepK.keep k t)
theorem RepF.keep (k : Keeps K F H F' H') : ∀ {v : List (Str × V)} {d : List (Str × D)}, RepF K F H v d → RepF K F' H' v d
  | _, _, .nil => .nil
  | _, _, .cons r t => .cons (Rep.keep k r) (RepF.keep k t)
end
theorem Top.keep (k : Keeps K F H F' H') {a : Addr} (h : ∀ o, H a = some o → H' a = some o) : ∀ {d : D}, Top K F H a d → Top K F' H' a d
  | _, .lst s r => .lst (h _ s) (r.keep k)
  | _, .dK s r => .dK (h _ s) (r.keep k)
  | _, .obj s r => .obj (h _ s) (r.keep k)
theorem Top.rep {a : Addr} {d : D} (f : F a) : Top K F H a d → Rep K F H (.ref a) d
  | .lst s r => .lst f s r
  | .dK s r => .dK f s r
  | .obj s r => .obj f s r
theorem Top.at_ {a : Addr} {d : D} : Top K F H a d → ∃ o, H a = some o ∧ (∀ xs, o ≠ .tup xs) ∧ (∀ ob u, o ≠ .frz ob u) ∧ (∀ fs, o ≠ .xd fs)
  | .lst s r => ⟨_, s, fun _ e => (nomatch e), fun _ _ e => (nomatch e), fun _ e => (nomatch e)⟩
  | .dK s r => ⟨_, s, fun _ e => (nomatch e), fun _ _ e => (nomatch e), fun _ e => (nomatch e)⟩
  | .obj s r => ⟨_, s, fun _ e => (nomatch e), fun _ _ e => (nomatch e), fun _ e => (nomatch e)⟩
theorem RepL.length : ∀ {xs : List V} {ds : List D}, RepL K F H xs ds → xs.length = ds.length
  | _, _, .nil => rfl
  | _, _, .cons _ t => congrArg Nat.succ (RepL.length t)
theorem RepK.length : ∀ {xs : List (Key × V)} {ds : List (Key × D)}, RepK K F H xs ds → xs.length = ds.length
  | _, _, .nil => rfl
  | _, _, .cons _ t => congrArg Nat.succ (RepK.length t)
theorem RepL.append : ∀ {xs ys : List V} {ds es : List D}, RepL K F H xs ds → RepL K F H ys es → RepL K F H (xs ++ ys) (ds ++ es)
  | _, _, _, _, .nil, s => s
  | _, _, _, _, .cons r t, s => .cons r (RepL.append t s)
theorem RepL.get : ∀ {xs : List V} {ds : List D} {i : Nat} {d : D}, RepL K F H xs ds → ds[i]? = some d → ∃ v, xs[i]? = some v ∧ Rep K F H v d
  | _, _, _, _, .nil, e => by simp at e
  | _, _, 0, _, .cons r _, e => by simp at e; subst e; exact ⟨_, rfl, r⟩
  | _, _, i + 1, _, .cons _ t, e => by
    obtain ⟨v, h1, h2⟩ := RepL.get (i := i) t (by simpa using e)
    exact ⟨v, by simpa using h1, h2⟩
theorem RepL.get' : ∀ {xs : List V} {ds : List D} {i : Nat} {v : V}, RepL K F H xs ds → xs[i]? = some v → ∃ d, ds[i]? = some d ∧ Rep K F H v d
  | _, _, _, _, .nil, e => by simp at e
  | _, _, 0, _, .cons r _, e => by simp at e; subst e; exact ⟨_, rfl, r⟩
  | _, _, i + 1, _, .cons _ t, e => by
    obtain ⟨v, h1, h2⟩ := RepL.get' (i := i) t (by simpa using e)
    exact ⟨v, by simpa using h1, h2⟩
theorem RepL.take : ∀ {xs : List V} {ds : List D} (n : Nat), RepL K F H xs ds → RepL K F H (xs.take n) (ds.take n)
  | _, _, 0, _ => .nil
  | _, _, _ + 1, .nil => .nil
  | _, _, n + 1, .cons r t => .cons r (RepL.take n t)
theorem RepL.drop : ∀ {xs : List V} {ds : List D} (n : Nat), RepL K F H xs ds → RepL K F H (xs.drop n) (ds.drop n)
  | _, _, 0, r => r
  | _, _, _ + 1, .nil => .nil
  | _, _, n + 1, .cons _ t => RepL.drop n t
theorem RepL.set {x : V} {u : D} (r : Rep K F H x u) : ∀ {xs : List V} {us : List D} (i : Nat), RepL K F H xs us → RepL K F H (xs.set i x) (us.set i u)
  | _, _, _, .nil => .nil
  | _, _, 0, .cons _ t => .cons r t
  | _, _, i + 1, .cons q t => .cons q (RepL.set r i t)
theorem RepL.erase : ∀ {xs : List V} {us : List D} (i : Nat), RepL K F H xs us → RepL K F H (xs.eraseIdx i) (us.eraseIdx i)
  | _, _, _, .nil => .nil
  | _, _, 0, .cons _ t => t
  | _, _, i + 1, .cons q t => .cons q (RepL.erase i t)
theorem RepL.map_int : ∀ {xs : List V} {ns : List Int}, RepL K F H xs (ns.map D.int) → xs = ns.map V.int
  | _, [], .nil => rfl
  | _, n :: ns, .cons (.int _) t => by rw [RepL.map_int t]; rfl
theorem RepL.map_str : ∀ {xs : List V} {ns : List Str}, RepL K F H xs (ns.map D.str) → xs = ns.map V.str
  | _, [], .nil => rfl
  | _, n :: ns, .cons (.str _) t => by rw [RepL.map_str t]; rfl
theorem RepL.map_bl : ∀ {xs : List V} {ns : List Bool}, RepL K F H xs (ns.map D.bl) → xs = ns.map V.bl
  | _, [], .nil => rfl
  | _, n :: ns, .cons (.bl _) t => by rw [RepL.map_bl t]; rfl
theorem RepL.strs : ∀ (ns : List Str), RepL K F H (ns.map V.str) (ns.map D.str)
  | [] => .nil
  | _ :: t => .cons (.str _) (RepL.strs t)
theorem RepL.ints : ∀ (ns : List Int), RepL K F H (ns.map V.int) (ns.map D.int)
  | [] => .nil
  | _ :: t => .cons (.int _) (RepL.ints t)
theorem RepK.val : ∀ {kvs : List (Key × V)} {ds : List (Key × D)} {k : Key}, RepK K F H kvs ds →
    (valV kvs k = none ∧ dval ds k = none) ∨ ∃ v d, valV kvs k = some v ∧ dval ds k = some d ∧ Rep K F H v d := by
  intro kvs
  induction kvs with
  | nil =>
    intro ds k r
    cases r
    exact .inl ⟨rfl, rfl⟩
  | cons p r ih =>
    intro ds k h
    cases h with
    | cons h1 h2 =>
      rename_i k' v d ds'
      by_cases e : k' = k
      · subst e
        exact .inr ⟨v, d, by unfold valV; rw [List.find?_cons_of_pos (by simp)]; rfl, by unfold dval; rw [List.find?_cons_of_pos (by simp)]; rfl, h1⟩
      · have e1 : valV ((k', v) :: r) k = valV r k := by unfold valV; rw [List.find?_cons_of_neg (by simpa using e)]
        have e2 : dval ((k', d) :: ds') k = dval ds' k := by unfold dval; rw [List.find?_cons_of_neg (by simpa using e)]
        rw [e1, e2]
        exact ih h2
theorem RepK.any : ∀ {kvs : List (Key × V)} {ds : List (Key × D)} {k : Key}, RepK K F H kvs ds → (kvs.any fun kv => decide (kv.1 = k)) = ds.any fun kv => decide (kv.1 = k)
  | _, _, _, .nil => rfl
  | _, _, _, .cons _ t => by simp only [List.any_cons, RepK.any t]
theorem RepK.map {k : Key} {v : V} {d : D} (r : Rep K F H v d) : ∀ {kvs : List (Key × V)} {ds : List (Key × D)}, RepK K F H kvs ds →
    RepK K F H (kvs.map (fun kv => if kv.1 = k then (kv.1, v) else kv)) (ds.map (fun kv => if kv.1 = k then (kv.1, d) else kv))
  | _, _, .nil => .nil
  | _, _, .cons (k := k') q t => by
    by_cases e : k' = k
    · simp only [List.map_cons, if_pos e]
      exact .cons r (RepK.map r t)
    · simp only [List.map_cons, if_neg e]
      exact .cons q (RepK.map r t)
theorem RepK.append : ∀ {xs ys : List (Key × V)} {ds es : List (Key × D)}, RepK K F H xs ds → RepK K F H ys es → RepK K F H (xs ++ ys) (ds ++ es)
  | _, _, _, _, .nil, s => s
  | _, _, _, _, .cons r t, s => .cons r (RepK.append t s)
theorem RepK.put {k : Key} {v : V} {d : D} (r : Rep K F H v d) {kvs : List (Key × V)} {ds : List (Key × D)} (h : RepK K F H kvs ds) : RepK K F H (putK kvs k v) (dput ds k d) := by
  unfold putK dput
  rw [h.any]
  split
  · exact RepK.map r h
  · exact h.append (.cons r .nil)
end

/-! ### the environment of data -/
inductive SV where
  | frz (d : D) | own (d : D) | bor (d : D)
def SV.d : SV → D
  | .frz d => d
  | .own d => d
  | .bor d => d
def SV.mt : SV → Option D
  | .frz _ => none
  | .own d => some d
  | .bor d => some d
def SV.put : SV → D → SV
  | .frz _, d => .frz d
  | .own _, d => .own d
  | .bor _, d => .bor d
abbrev Env := List (Option SV)
/-- what a def's body leans on: the entry, the borrowed objects, the wish of exceptions, the errors at hand -/
structure Pr where
  K : PySem.W.Frag
  H0 : Hp
  F0 : Addr → Prop
  bs : List Addr
  W : WX
  pins : List (Addr × V × D)
def Own (σ : L2.St) (ρ : Env) (a : Addr) : Prop := ∃ (i : Nat) (s : SV) (d : D), ρ[i]? = some (some s) ∧ s.mt = some d ∧ σ[i]? = some (some (.ref a))
structure Rel (C : Pr) (F : Addr → Prop) (H : Hp) (σ : L2.St) (ρ : Env) : Prop where
  len : σ.length = ρ.length
  frz : ∀ (i : Nat) (d : D), ρ[i]? = some (some (SV.frz d)) → ∃ v : V, σ[i]? = some (some v) ∧ Rep C.K F H v d
  mt : ∀ (i : Nat) (s : SV) (d : D), ρ[i]? = some (some s) → s.mt = some d → ∃ a : Addr, σ[i]? = some (some (.ref a)) ∧ ¬ F a ∧ Top C.K F H a d ∧ (a ∈ C.bs ∨ C.H0 a = none)
  sep : ∀ (i j : Nat) (s t : SV) (d e : D) (a : Addr), ρ[i]? = some (some s) → ρ[j]? = some (some t) → s.mt = some d → t.mt = some e → σ[i]? = some (some (.ref a)) → σ[j]? = some (some (.ref a)) → i = j
  bor : ∀ (i : Nat) (a : Addr), C.bs[i]? = some a → σ[i]? = some (some (.ref a)) ∧ ∃ d : D, ρ[i]? = some (some (SV.bor d))
  obor : ∀ (i : Nat) (d : D), ρ[i]? = some (some (SV.bor d)) → ∃ a, C.bs[i]? = some a
  ent : ∀ a o, C.H0 a = some o → a ∉ C.bs → H a = some o
  fnew : ∀ a, F a → C.F0 a ∨ C.H0 a = none
  f0 : ∀ a, C.F0 a → F a
  trk : ∀ a, F a → ∃ o, H a = some o
  pin : ∀ p ∈ C.pins, F p.1 ∧ H p.1 = some (.xd [("at", p.2.1)]) ∧ Rep C.K F H p.2.1 p.2.2
/-- an expression's change: what is tracked and not owned here stays -/
structure Ext (σ : L2.St) (ρ ρ' : Env) (F : Addr → Prop) (H : Hp) (F' : Addr → Prop) (H' : Hp) : Prop where
  sub : ∀ a, F a → F' a
  keep : ∀ a o, H a = some o → ¬ Own σ ρ a → H' a = some o
  new : ∀ a, F' a → F a ∨ H a = none ∨ Own σ ρ a
  own : ∀ a, Own σ ρ' a → Own σ ρ a
  bk : ∀ a, H' a = none → H a = none
section
variable {C : Pr} {F F' F2 : Addr → Prop} {H H' H2 : Hp} {σ : L2.St} {ρ ρ' ρ2 : Env}
theorem Ext.refl : Ext σ ρ ρ F H F H := ⟨fun _ h => h, fun _ _ h _ => h, fun _ h => .inl h, fun _ h => h, fun _ h => h⟩
theorem Ext.trans (a : Ext σ ρ ρ' F H F' H') (b : Ext σ ρ' ρ2 F' H' F2 H2) : Ext σ ρ ρ2 F H F2 H2 :=
  ⟨fun x h => b.sub x (a.sub x h), fun x o h n => b.keep x o (a.keep x o h n) fun z => n (a.own x z), fun x h => by
    rcases b.new x h with h | h | h
    · exact a.new x h
    · cases e : H x with
      | none => exact .inr (.inl rfl)
      | some o =>
        refine .inr (.inr (Classical.byContradiction fun n => ?_))
        rw [a.keep x o e n] at h
        cases h
    · exact .inr (.inr (a.own x h)), fun x h => a.own x (b.own x h), fun x h => a.bk x (b.bk x h)⟩
theorem Rel.nown (R : Rel C F H σ ρ) {a : Addr} (f : F a) : ¬ Own σ ρ a := fun ⟨i, s, d, h1, h2, h3⟩ => by
  obtain ⟨b, e1, e2, _⟩ := R.mt i s d h1 h2
  rw [h3] at e1
  cases e1
  exact e2 f
theorem Rel.ntup (R : Rel C F H σ ρ) {a : Addr} {o : HO} (h : H a = some o) (t : (∃ xs, o = .tup xs) ∨ (∃ ob u, o = .frz ob u)) : ¬ Own σ ρ a := fun ⟨i, s, d, h1, h2, h3⟩ => by
  obtain ⟨b, e1, _, e3, _⟩ := R.mt i s d h1 h2
  rw [h3] at e1
  cases e1
  obtain ⟨o', e, n1, n2, _⟩ := e3.at_
  rw [h] at e
  cases e
  rcases t with ⟨xs, e⟩ | ⟨ob, xs, e⟩
  · exact n1 _ e
  · exact n2 _ _ e
theorem Ext.keeps (x : Ext σ ρ ρ' F H F' H') (R : Rel C F H σ ρ) : Keeps C.K F H F' H' :=
  ⟨x.sub, fun a o f h => x.keep a o h (R.nown f), fun a o h t => x.keep a o h (R.ntup h t)⟩
/-- a value's result: frozen, or a new object of its own -/
def RepS (K : PySem.W.Frag) (F : Addr → Prop) (H Hs : Hp) (v : V) : SV → Prop
  | .frz d => Rep K F H v d
  | .own d => ∃ a, v = .ref a ∧ ¬ F a ∧ Top K F H a d ∧ Hs a = none
  | .bor _ => False
/-- an error that is on its way: its class, its own dict -/
def XOk (K : PySem.W.Frag) (F : Addr → Prop) (H Hs : Hp) (cls : Value) (dd : Addr) (c : Str) (x : D) : Prop :=
  cls = .ref (He.ga K c) ∧ Hs dd = none ∧ ∃ v, H dd = some (.xd [("at", v)]) ∧ Rep K F H v x
end
inductive O where
  | ok (r : SV) | ex (c : Str) (x : D)
abbrev DE := Env → (O → Env → Prop) → Prop
def lE (C : Pr) (f : DE) : TE := fun σ H Q => ∃ (ρ : Env) (F : Addr → Prop) (P : O → Env → Prop), Rel C F H σ ρ ∧ f ρ P ∧
  (∀ r ρ', P (.ok r) ρ' → ∀ v H' F', Ext σ ρ ρ' F H F' H' → Rel C F' H' σ ρ' → RepS C.K F' H' H v r → Q v H') ∧
  (∀ c x ρ', P (.ex c x) ρ' → ∀ cls dd H' F', Ext σ ρ ρ' F H F' H' → Rel C F' H' σ ρ' → XOk C.K F' H' H cls dd c x → C.W cls (some dd) σ H')
end Ow

set_option Elab.async false
set_option linter.all false
set_option maxRecDepth 100000
set_option maxHeartbeats 2000000
namespace Ow
open PySem PySem.Spec L2
set_option autoImplicit false

/-! ### data as the library's data -/
mutual
def D.py : D → PyData
  | .non => .none
  | .bl b => .bool b
  | .int i => .int i
  | .str s => .str s
  | .lst ds => .list (pyL ds)
  | .arr ds => .list (pyL ds)
  | .tup ds => .tuple (pyL ds)
  | .dK _ => .none
  | .obj _ _ => .none
  | .ptr _ => .none
def pyL : List D → List PyData
  | [] => []
  | d :: ds => d.py :: pyL ds
end
mutual
/-- none, bools, ints, texts, lists and tuples of these -/
def D.pur : D → Bool
  | .non => true
  | .bl _ => true
  | .int _ => true
  | .str _ => true
  | .lst ds => purL ds
  | .arr ds => purL ds
  | .tup ds => purL ds
  | .dK _ => false
  | .obj _ _ => false
  | .ptr _ => false
def purL : List D → Bool
  | [] => true
  | d :: ds => d.pur && purL ds
end
section
variable {K : PySem.W.Frag} {F F' F2 : Addr → Prop} {H H' H2 Hs : Hp}
/-- as Rep, or an owned object at the top -/
def Rp1 (K : PySem.W.Frag) (F : Addr → Prop) (H : Hp) (v : V) (d : D) : Prop := Rep K F H v d ∨ ∃ a, v = .ref a ∧ Top K F H a d
inductive Rp1L (K : PySem.W.Frag) (F : Addr → Prop) (H : Hp) : List V → List D → Prop
  | nil : Rp1L K F H [] []
  | cons {v : V} {vs : List V} {d : D} {ds : List D} : Rp1 K F H v d → Rp1L K F H vs ds → Rp1L K F H (v :: vs) (d :: ds)
theorem RepL.rp1 : ∀ {vs : List V} {ds : List D}, RepL K F H vs ds → Rp1L K F H vs ds
  | _, _, .nil => .nil
  | _, _, .cons r t => .cons (.inl r) (RepL.rp1 t)
theorem Rp1.lst {v : V} {ds : List D} (h : Rp1 K F H v (.lst ds)) : ∃ a xs, v = .ref a ∧ H a = some (.lst xs) ∧ RepL K F H xs ds := by
  rcases h with h | ⟨a, rfl, h⟩
  · cases h with | lst f s r => exact ⟨_, _, rfl, s, r⟩
  · cases h with | lst s r => exact ⟨_, _, rfl, s, r⟩
theorem Rp1.arr {v : V} {ds : List D} (h : Rp1 K F H v (.arr ds)) : ∃ a xs, v = .ref a ∧ SqL K H a xs ∧ RepL K F H xs ds := by
  rcases h with h | ⟨a, rfl, h⟩
  · cases h with | arr s r => exact ⟨_, _, rfl, s.sq, r⟩
  · cases h
theorem Rp1.tup {v : V} {ds : List D} (h : Rp1 K F H v (.tup ds)) : ∃ a xs, v = .ref a ∧ SqT K H a xs ∧ RepL K F H xs ds := by
  rcases h with h | ⟨a, rfl, h⟩
  · cases h with | tup s r => exact ⟨_, _, rfl, s, r⟩
  · cases h
theorem Rp1.dK {v : V} {ds : List (Key × D)} (h : Rp1 K F H v (.dK ds)) : ∃ a xs, v = .ref a ∧ H a = some (.dK xs) ∧ RepK K F H xs ds := by
  rcases h with h | ⟨a, rfl, h⟩
  · cases h with | dK f s r => exact ⟨_, _, rfl, s, r⟩
  · cases h with | dK s r => exact ⟨_, _, rfl, s, r⟩
theorem Rp1.obj {v : V} {c : Str} {ds : List (Str × D)} (h : Rp1 K F H v (.obj c ds)) : ∃ a dx xs, v = .ref a ∧ H a = some (.ins (He.ga K c) dx xs) ∧ RepF K F H xs ds := by
  rcases h with h | ⟨a, rfl, h⟩
  · cases h with | obj f s r => exact ⟨_, _, _, rfl, s, r⟩
  · cases h with | obj s r => exact ⟨_, _, _, rfl, s, r⟩
theorem Rp1.int {v : V} {i : Int} (h : Rp1 K F H v (.int i)) : v = .int i := by
  rcases h with h | ⟨a, rfl, h⟩ <;> cases h
  rfl
theorem Rp1.str {v : V} {i : Str} (h : Rp1 K F H v (.str i)) : v = .str i := by
  rcases h with h | ⟨a, rfl, h⟩ <;> cases h
  rfl
theorem Rp1.bl {v : V} {i : Bool} (h : Rp1 K F H v (.bl i)) : v = .bl i := by
  rcases h with h | ⟨a, rfl, h⟩ <;> cases h
  rfl
theorem Rp1.non {v : V} (h : Rp1 K F H v .non) : v = .non := by
  rcases h with h | ⟨a, rfl, h⟩ <;> cases h
  rfl
mutual
theorem Rep.dp : ∀ {d : D} {v : V}, Rep K F H v d → d.pur = true → Dp K H v d.py
  | .non, _, h, _ => by cases h; rw [D.py]; exact .non
  | .bl b, _, h, _ => by cases h; rw [D.py]; exact .bl b
  | .int b, _, h, _ => by cases h; rw [D.py]; exact .int b
  | .str b, _, h, _ => by cases h; rw [D.py]; exact .str b
  | .lst ds, _, h, p => by
    cases h with
    | lst f s r =>
      rw [D.py]
      exact .lst (.of s) (RepL.dp r (by rw [D.pur] at p; exact p))
  | .arr ds, _, h, p => by
    cases h with
    | arr s r =>
      rw [D.py]
      exact .lst s.sq (RepL.dp r (by rw [D.pur] at p; exact p))
  | .tup ds, _, h, p => by
    cases h with
    | tup s r =>
      rw [D.py]
      exact .tup s (RepL.dp r (by rw [D.pur] at p; exact p))
  | .dK _, _, _, p => by rw [D.pur] at p; cases p
  | .obj _ _, _, _, p => by rw [D.pur] at p; cases p
  | .ptr _, _, _, p => by rw [D.pur] at p; cases p
theorem RepL.dp : ∀ {ds : List D} {vs : List V}, RepL K F H vs ds → purL ds = true → DpAll K H vs (pyL ds)
  | [], _, h, _ => by cases h; rw [pyL]; exact .nil
  | d :: ds, _, h, p => by
    cases h with
    | cons r t =>
      rw [purL, Bool.and_eq_true] at p
      rw [pyL]
      exact .cons (Rep.dp r p.1) (RepL.dp t p.2)
end
theorem Rp1.dp {d : D} {v : V} (h : Rp1 K F H v d) (p : d.pur = true) : Dp K H v d.py := by
  rcases h with h | ⟨a, rfl, h⟩
  · exact h.dp p
  · cases h with
    | lst s r =>
      rw [D.py]
      exact .lst (.of s) (r.dp (by rw [D.pur] at p; exact p))
    | dK s r => rw [D.pur] at p; cases p
    | obj s r => rw [D.pur] at p; cases p
theorem Rp1.keep (k : Keeps K F H F' H') {d : D} {v : V} (h : Rep K F H v d) : Rp1 K F' H' v d := .inl (h.keep k)
/-- a new result -/
def RepN (K : PySem.W.Frag) (F : Addr → Prop) (H Hs : Hp) (v : V) : SV → Prop
  | .frz d => Rep K F H v d
  | .own d => ∃ a, v = .ref a ∧ Top K F H a d ∧ Hs a = none
  | .bor _ => False
theorem keeps_same (h : Same H H') : Keeps K F H F H' := ⟨fun _ h => h, fun a o _ e => h a o e, fun a o e _ => h a o e⟩
theorem same_new {a : Addr} {o : HO} (h : H a = none) : Same H (upd H a o) := fun b u e => by
  rw [upd_ne (ne_of_none e h)]
  exact e
end

/-! ### operations on data -/
abbrev Op2 := D → D → (SV → Prop) → Prop
abbrev OpN := List D → (SV → Prop) → Prop
abbrev OpM := D → List D → (SV → Prop) → Prop
def rO2 (K : PySem.W.Frag) (op : Op2) : R2 := fun x y H Q => ∃ (F : Addr → Prop) (d e : D) (P : SV → Prop), Rp1 K F H x d ∧ Rp1 K F H y e ∧ op d e P ∧ ∀ s, P s → ∀ u H', Same H H' → RepN K F H' H u s → Q u H'
def rON (K : PySem.W.Frag) (op : OpN) : List V → Hp → VK → Prop := fun xs H Q => ∃ (F : Addr → Prop) (ds : List D) (P : SV → Prop), Rp1L K F H xs ds ∧ op ds P ∧ ∀ s, P s → ∀ u H', Same H H' → RepN K F H' H u s → Q u H'
def rOM (K : PySem.W.Frag) (op : OpM) : V → List V → Hp → VK → Prop := fun x xs H Q => ∃ (F : Addr → Prop) (d : D) (ds : List D) (P : SV → Prop), Rp1 K F H x d ∧ Rp1L K F H xs ds ∧ op d ds P ∧ ∀ s, P s → ∀ u H', Same H H' → RepN K F H' H u s → Q u H'

theorem oimp {X : Cx} {f : Value → Value → Sem Value} {r r' : R2} (h : OpR X f r) (i : ∀ x y H Q, r' x y H Q → r x y H Q) : OpR X f r' :=
  fun pins s σ H x y v u Q I rx ry q => h pins s σ H x y v u Q I rx ry (i _ _ _ _ q)
theorem iimp {X : Cx} {r r' : R2} (h : IxR X r) (i : ∀ x y H Q, r' x y H Q → r x y H Q) : IxR X r' :=
  fun a b pins s σ H x y v u Q I rx ry q e => h a b pins s σ H x y v u Q I rx ry (i _ _ _ _ q) e
theorem cimp {X : Cx} {f : Value} {r r' : List V → Hp → VK → Prop} (h : CallR X f r) (i : ∀ x H Q, r' x H Q → r x H Q) : CallR X f r' :=
  fun pins s σ H x v Q I rx q => h pins s σ H x v Q I rx (i _ _ _ q)
theorem mimp {X : Cx} {id : String} {r r' : V → List V → Hp → VK → Prop} (h : MtR X id r) (i : ∀ x xs H Q, r' x xs H Q → r x xs H Q) : MtR X id r' :=
  fun pins s σ H x xs v us Q I rx rxs q => h pins s σ H x xs v us Q I rx rxs (i _ _ _ _ q)
theorem or3 {X : Cx} {f : Value → Value → Sem Value} {r1 r2 r3 : R2} (h1 : OpR X f r1) (h2 : OpR X f r2) (h3 : OpR X f r3) : OpR X f (fun x y H Q => r1 x y H Q ∨ r2 x y H Q ∨ r3 x y H Q) :=
  h1.or (h2.or h3)

def dAdd : Op2
  | .int i, .int j, P => P (.frz (.int (i + j)))
  | .str a, .str b, P => a.length + b.length ≤ sizeLine ∧ P (.frz (.str (a ++ b)))
  | .lst a, .lst b, P => a.length + b.length ≤ sizeLine ∧ P (.own (.lst (a ++ b)))
  | _, _, _ => False
theorem o_add {X : Cx} : OpR X (binaryOp .Add) (rO2 X.K dAdd) := by
  refine oimp ((op_add.or (op_add_str.or op_cat))) ?_
  rintro x y H Q ⟨F, d, e, P, rx, ry, h, k⟩
  unfold dAdd at h
  split at h
  · rename_i i j
    have e1 := rx.int
    have e2 := ry.int
    subst e1 e2
    exact .inl ⟨i, j, rfl, rfl, k _ h _ H (Same.refl H) (.int _)⟩
  · have e1 := rx.str
    have e2 := ry.str
    subst e1 e2
    exact .inr (.inl ⟨_, _, rfl, rfl, h.1, k _ h.2 _ H (Same.refl H) (.str _)⟩)
  · obtain ⟨a, xs, rfl, hx, r1⟩ := rx.lst
    obtain ⟨b, ys, rfl, hy, r2⟩ := ry.lst
    refine .inr (.inr ⟨a, b, xs, ys, rfl, rfl, hx, hy, by rw [r1.length, r2.length]; exact h.1, fun p hp => k _ h.2 _ _ (same_new hp) ⟨p, rfl, .lst upd_same ((r1.append r2).keep (keeps_same (same_new hp))), hp⟩⟩)
  · exact h.elim
def dI2 (g : Int → Int → Option D) : Op2
  | .int i, .int j, P => match g i j with
    | some d => P (.frz d)
    | none => False
  | _, _, _ => False
def dSub : Op2 := dI2 fun i j => some (.int (i - j))
theorem o_sub {X : Cx} : OpR X (binaryOp .Sub) (rO2 X.K dSub) := by
  refine oimp op_sub ?_
  rintro x y H Q ⟨F, d, e, P, rx, ry, h, k⟩
  unfold dSub dI2 at h
  split at h
  · have e1 := rx.int
    have e2 := ry.int
    subst e1 e2
    exact ⟨_, _, rfl, rfl, k _ h _ H (Same.refl H) (.int _)⟩
  · exact h.elim
/-- products: ints whose sizes together are bounded, a text some times -/
def dMul : Op2
  | .int i, .int j, P => (i.natAbs.log2 + j.natAbs.log2 < 1000000) ∧ P (.frz (.int (i * j)))
  | _, _, _ => False
theorem o_mul {X : Cx} : OpR X (binaryOp .Mult) (rO2 X.K dMul) := by
  refine oimp op_mulW ?_
  rintro x y H Q ⟨F, d, e, P, rx, ry, h, k⟩
  unfold dMul at h
  split at h
  · have e1 := rx.int
    have e2 := ry.int
    subst e1 e2
    exact ⟨_, _, rfl, rfl, h.1, k _ h.2 _ H (Same.refl H) (.int _)⟩
  · exact h.elim
def dDiv : Op2
  | .int i, .int j, P => (0 < j ∧ j.natAbs.log2 < 9000) ∧ P (.frz (.int (i / j)))
  | _, _, _ => False
theorem o_div {X : Cx} : OpR X (binaryOp .FloorDiv) (rO2 X.K dDiv) := by
  refine oimp op_fdivW ?_
  rintro x y H Q ⟨F, d, e, P, rx, ry, h, k⟩
  unfold dDiv at h
  split at h
  · have e1 := rx.int
    have e2 := ry.int
    subst e1 e2
    exact ⟨_, _, rfl, rfl, h.1, k _ h.2 _ H (Same.refl H) (.int _)⟩
  · exact h.elim
def dMod : Op2
  | .int i, .int j, P => 0 < j ∧ P (.frz (.int (i % j)))
  | _, _, _ => False
theorem o_mod {X : Cx} : OpR X (binaryOp .Mod) (rO2 X.K dMod) := by
  refine oimp op_mod ?_
  rintro x y H Q ⟨F, d, e, P, rx, ry, h, k⟩
  unfold dMod at h
  split at h
  · have e1 := rx.int
    have e2 := ry.int
    subst e1 e2
    exact ⟨_, _, rfl, rfl, h.1, k _ h.2 _ H (Same.refl H) (.int _)⟩
  · exact h.elim
def dPow : Op2
  | .int i, .int j, P => (0 ≤ j ∧ j ≤ 1000000 ∧ i.natAbs < 2 ^ 64) ∧ P (.frz (.int (i ^ j.toNat)))
  | _, _, _ => False
theorem o_pow {X : Cx} : OpR X (binaryOp .Pow) (rO2 X.K dPow) := by
  refine oimp op_pow ?_
  rintro x y H Q ⟨F, d, e, P, rx, ry, h, k⟩
  unfold dPow at h
  split at h
  · have e1 := rx.int
    have e2 := ry.int
    subst e1 e2
    exact ⟨_, _, rfl, rfl, h.1, k _ h.2 _ H (Same.refl H) (.int _)⟩
  · exact h.elim
/-! comparisons -/
def D.scal : D → D → Bool
  | .non, .non => true | .non, .int _ => true | .int _, .non => true | .non, .bl _ => true | .bl _, .non => true | .non, .str _ => true | .str _, .non => true
  | .int _, .int _ => true | .bl _, .bl _ => true | .str _, .str _ => true
  | .int _, .str _ => true | .str _, .int _ => true | .bl _, .str _ => true | .str _, .bl _ => true
  | _, _ => false
/-- == of plain values -/
def D.eqs : D → D → Bool
  | .non, .non => true
  | .int i, .int j => decide (i = j)
  | .bl i, .bl j => decide (i = j)
  | .str i, .str j => decide (i = j)
  | _, _ => false
def dEq : Op2 := fun x y P => if D.scal x y = true then P (.frz (.bl (D.eqs x y))) else
  x.pur = true ∧ y.pur = true ∧ SeqAt.shaped x.py = true ∧ SeqAt.shaped y.py = true ∧ P (.frz (.bl (PyData.eqv x.py y.py)))
def dNe : Op2 := fun x y P => if D.scal x y = true then P (.frz (.bl (!D.eqs x y))) else
  x.pur = true ∧ y.pur = true ∧ SeqAt.shaped x.py = true ∧ SeqAt.shaped y.py = true ∧ P (.frz (.bl (!PyData.eqv x.py y.py)))
theorem scal_v {K : PySem.W.Frag} {F : Addr → Prop} {H : Hp} {x y : V} {d e : D} (rx : Rp1 K F H x d) (ry : Rp1 K F H y e) (h : D.scal d e = true) : L2.scal x y = true ∧ decide (x = y) = D.eqs d e := by
  have dd : ∀ {p q : Prop} [Decidable p] [Decidable q], (p ↔ q) → decide p = decide q := fun {p q} _ _ h => by
    rw [Bool.eq_iff_iff]; simp [h]
  cases d <;> cases e <;> first
    | (cases h; done)
    | (first | (have e1 := rx.non; subst e1) | (have e1 := rx.int; subst e1) | (have e1 := rx.bl; subst e1) | (have e1 := rx.str; subst e1)
       first | (have e2 := ry.non; subst e2) | (have e2 := ry.int; subst e2) | (have e2 := ry.bl; subst e2) | (have e2 := ry.str; subst e2)
       refine ⟨rfl, ?_⟩
       unfold D.eqs
       first | rfl | exact dd ⟨fun z => by injection z, fun z => by rw [z]⟩ | (simp))
theorem o_eq {X : Cx} (hu : X.A.units + 64 < cLine) : OpR X (compareOp .Eq) (rO2 X.K dEq) := by
  refine oimp (op_eq.or (op_eqD hu)) ?_
  rintro x y H Q ⟨F, d, e, P, rx, ry, h, k⟩
  unfold dEq at h
  split at h
  · rename_i c
    obtain ⟨s1, s2⟩ := scal_v rx ry c
    exact .inl ⟨s1, by rw [s2]; exact k _ h _ H (Same.refl H) (.bl _)⟩
  · obtain ⟨p1, p2, s1, s2, h⟩ := h
    exact .inr ⟨_, _, rx.dp p1, ry.dp p2, s1, s2, k _ h _ H (Same.refl H) (.bl _)⟩
theorem o_ne {X : Cx} (hu : X.A.units + 64 < cLine) : OpR X (compareOp .NotEq) (rO2 X.K dNe) := by
  refine oimp (op_ne.or (op_neD hu)) ?_
  rintro x y H Q ⟨F, d, e, P, rx, ry, h, k⟩
  unfold dNe at h
  split at h
  · rename_i c
    obtain ⟨s1, s2⟩ := scal_v rx ry c
    exact .inl ⟨s1, by rw [s2]; exact k _ h _ H (Same.refl H) (.bl _)⟩
  · obtain ⟨p1, p2, s1, s2, h⟩ := h
    exact .inr ⟨_, _, rx.dp p1, ry.dp p2, s1, s2, k _ h _ H (Same.refl H) (.bl _)⟩
def dLt : Op2
  | .int i, .int j, P => P (.frz (.bl (decide (i < j))))
  | .str i, .str j, P => P (.frz (.bl (decide (i.cps.toList < j.cps.toList))))
  | _, _, _ => False
def dLe : Op2
  | .int i, .int j, P => P (.frz (.bl (decide (i ≤ j))))
  | .str i, .str j, P => P (.frz (.bl (!decide (j.cps.toList < i.cps.toList))))
  | _, _, _ => False
def dGt : Op2
  | .int i, .int j, P => P (.frz (.bl (decide (j < i))))
  | .str i, .str j, P => P (.frz (.bl (decide (j.cps.toList < i.cps.toList))))
  | _, _, _ => False
def dGe : Op2
  | .int i, .int j, P => P (.frz (.bl (decide (j ≤ i))))
  | .str i, .str j, P => P (.frz (.bl (!decide (i.cps.toList < j.cps.toList))))
  | _, _, _ => False
theorem o_lt {X : Cx} : OpR X (compareOp .Lt) (rO2 X.K dLt) := by
  refine oimp (op_lt.or op_lt_str) ?_
  rintro x y H Q ⟨F, d, e, P, rx, ry, h, k⟩
  unfold dLt at h
  split at h
  · have e1 := rx.int
    have e2 := ry.int
    subst e1 e2
    exact .inl ⟨_, _, rfl, rfl, k _ h _ H (Same.refl H) (.bl _)⟩
  · have e1 := rx.str
    have e2 := ry.str
    subst e1 e2
    exact .inr ⟨_, _, rfl, rfl, k _ h _ H (Same.refl H) (.bl _)⟩
  · exact h.elim
theorem o_le {X : Cx} : OpR X (compareOp .LtE) (rO2 X.K dLe) := by
  refine oimp (op_le.or op_le_str) ?_
  rintro x y H Q ⟨F, d, e, P, rx, ry, h, k⟩
  unfold dLe at h
  split at h
  · have e1 := rx.int
    have e2 := ry.int
    subst e1 e2
    exact .inl ⟨_, _, rfl, rfl, k _ h _ H (Same.refl H) (.bl _)⟩
  · have e1 := rx.str
    have e2 := ry.str
    subst e1 e2
    exact .inr ⟨_, _, rfl, rfl, k _ h _ H (Same.refl H) (.bl _)⟩
  · exact h.elim
theorem o_gt {X : Cx} : OpR X (compareOp .Gt) (rO2 X.K dGt) := by
  refine oimp (op_gt.or op_gt_str) ?_
  rintro x y H Q ⟨F, d, e, P, rx, ry, h, k⟩
  unfold dGt at h
  split at h
  · have e1 := rx.int
    have e2 := ry.int
    subst e1 e2
    exact .inl ⟨_, _, rfl, rfl, k _ h _ H (Same.refl H) (.bl _)⟩
  · have e1 := rx.str
    have e2 := ry.str
    subst e1 e2
    exact .inr ⟨_, _, rfl, rfl, k _ h _ H (Same.refl H) (.bl _)⟩
  · exact h.elim
theorem o_ge {X : Cx} : OpR X (compareOp .GtE) (rO2 X.K dGe) := by
  refine oimp (op_ge.or op_ge_str) ?_
  rintro x y H Q ⟨F, d, e, P, rx, ry, h, k⟩
  unfold dGe at h
  split at h
  · have e1 := rx.int
    have e2 := ry.int
    subst e1 e2
    exact .inl ⟨_, _, rfl, rfl, k _ h _ H (Same.refl H) (.bl _)⟩
  · have e1 := rx.str
    have e2 := ry.str
    subst e1 e2
    exact .inr ⟨_, _, rfl, rfl, k _ h _ H (Same.refl H) (.bl _)⟩
  · exact h.elim
/-- x is None, x is not None -/
def dIsN (neg : Bool) : Op2
  | .non, .non, P => P (.frz (.bl (!neg)))
  | _, .non, P => P (.frz (.bl neg))
  | _, _, _ => False
theorem non_dec {K : PySem.W.Frag} {F : Addr → Prop} {H : Hp} {x : V} {d : D} (rx : Rp1 K F H x d) (h : d ≠ .non) : decide (x = .non) = false := by
  refine decide_eq_false fun e => h ?_
  subst e
  rcases rx with rx | ⟨a, e, _⟩
  · cases rx
    rfl
  · cases e
theorem o_is {X : Cx} : OpR X (compareOp .Is) (rO2 X.K (dIsN false)) := by
  refine oimp op_isN ?_
  rintro x y H Q ⟨F, d, e, P, rx, ry, h, k⟩
  unfold dIsN at h
  split at h
  · have e1 := rx.non
    have e2 := ry.non
    subst e1 e2
    exact ⟨rfl, k _ h _ H (Same.refl H) (.bl _)⟩
  · rename_i hne
    have e2 := ry.non
    subst e2
    exact ⟨rfl, by rw [non_dec rx hne]; exact k _ h _ H (Same.refl H) (.bl _)⟩
  · exact h.elim
theorem o_isnot {X : Cx} : OpR X (compareOp .IsNot) (rO2 X.K (dIsN true)) := by
  refine oimp op_notN ?_
  rintro x y H Q ⟨F, d, e, P, rx, ry, h, k⟩
  unfold dIsN at h
  split at h
  · have e1 := rx.non
    have e2 := ry.non
    subst e1 e2
    exact ⟨rfl, k _ h _ H (Same.refl H) (.bl _)⟩
  · rename_i hne
    have e2 := ry.non
    subst e2
    exact ⟨rfl, by rw [non_dec rx hne]; exact k _ h _ H (Same.refl H) (.bl _)⟩
  · exact h.elim
end Ow

set_option Elab.async false
set_option linter.all false
set_option maxRecDepth 100000
set_option maxHeartbeats 2000000
namespace Ow
open PySem PySem.Spec L2
set_option autoImplicit false

theorem set_get {α : Type} {l : List α} {i j : Nat} {x y : α} (h : (l.set i x)[j]? = some y) : (j = i ∧ x = y ∧ i < l.length) ∨ (j ≠ i ∧ l[j]? = some y) := by
  rw [List.getElem?_set] at h
  by_cases e : i = j
  · rw [if_pos e] at h
    split at h
    · rename_i hl
      exact .inl ⟨e.symm, Option.some.inj h, hl⟩
    · cases h
  · rw [if_neg e] at h
    exact .inr ⟨fun z => e z.symm, h⟩
theorem get_set_ne {α : Type} {l : List α} {i j : Nat} {x : α} (h : j ≠ i) : (l.set i x)[j]? = l[j]? := by
  rw [List.getElem?_set, if_neg (fun z => h z.symm)]
theorem get_set_eq {α : Type} {l : List α} {i : Nat} {x : α} (h : i < l.length) : (l.set i x)[i]? = some x := by
  rw [List.getElem?_set, if_pos rfl, if_pos h]
theorem lt_of_get {α : Type} {l : List α} {i : Nat} {x : α} (h : l[i]? = some x) : i < l.length := (List.getElem?_eq_some_iff.mp h).1

section
variable {C : Pr} {F F' F2 : Addr → Prop} {H H' H2 Hs : Hp} {σ : L2.St} {ρ ρ' ρ2 ρ0 : Env}
theorem Rel.same (R : Rel C F H σ ρ) (h : Same H H') : Rel C F H' σ ρ where
  len := R.len
  frz := fun i d e => let ⟨v, a, b⟩ := R.frz i d e; ⟨v, a, b.keep (keeps_same h)⟩
  mt := fun i s d e m => let ⟨a, b, c, t, z⟩ := R.mt i s d e m; ⟨a, b, c, t.keep (keeps_same h) fun o q => h a o q, z⟩
  sep := R.sep
  bor := R.bor
  obor := R.obor
  ent := fun a o e n => h a o (R.ent a o e n)
  fnew := R.fnew
  f0 := R.f0
  trk := fun a f => let ⟨o, e⟩ := R.trk a f; ⟨o, h a o e⟩
  pin := fun p hp => let ⟨a, b, c⟩ := R.pin p hp; ⟨a, h _ _ b, c.keep (keeps_same h)⟩
theorem Ext.same (h : Same H H') : Ext σ ρ ρ F H F H' := ⟨fun _ z => z, fun a o e _ => h a o e, fun _ z => .inl z, fun _ z => z, fun _ z => h.free z⟩
theorem RepN.reps {K : PySem.W.Frag} {u : V} {s : SV} (trk : ∀ a, F a → ∃ o, H a = some o) (r : RepN K F H' H u s) : RepS K F H' H u s := by
  cases s with
  | frz d => exact r
  | own d =>
    obtain ⟨a, e, t, n⟩ := r
    refine ⟨a, e, ?_, t, n⟩
    intro f
    obtain ⟨o, z⟩ := trk a f
    rw [n] at z
    cases z
  | bor d => exact r.elim
theorem RepS.rp1 {K : PySem.W.Frag} {u : V} {s : SV} (r : RepS K F H Hs u s) : Rp1 K F H u s.d := by
  cases s with
  | frz d => exact .inl r
  | own d =>
    obtain ⟨a, e, _, t, n⟩ := r
    exact .inr ⟨a, e, t⟩
  | bor d => exact r.elim
theorem Rel.h0 (R : Rel C F H σ ρ) {a : Addr} (h : H a = none) : C.H0 a = none := by
  cases e : C.H0 a with
  | none => rfl
  | some o =>
    by_cases hb : a ∈ C.bs
    · obtain ⟨i, hi⟩ := List.mem_iff_getElem?.mp hb
      obtain ⟨h1, d, h2⟩ := R.bor i a hi
      obtain ⟨b, e1, _, t, _⟩ := R.mt i _ d h2 rfl
      rw [h1] at e1
      cases e1
      obtain ⟨o', z, _⟩ := t.at_
      rw [h] at z
      cases z
    · rw [R.ent a o e hb] at h
      cases h
/-- more is frozen -/
theorem Rel.more (R : Rel C F H σ ρ) {a : Addr} (h0 : C.H0 a = none) (ht : ∃ o, H a = some o) (n : ¬ Own σ ρ a) : Rel C (fun x => F x ∨ x = a) H σ ρ where
  len := R.len
  frz := fun i d e => let ⟨v, x, b⟩ := R.frz i d e; ⟨v, x, b.keep (.more fun _ z => .inl z)⟩
  mt := fun i s d e m => let ⟨b, x, c, t, z⟩ := R.mt i s d e m; ⟨b, x, fun q => q.elim c fun q => n ⟨i, s, d, e, m, by rw [← q]; exact x⟩, t.keep (.more fun _ z => .inl z) fun _ q => q, z⟩
  sep := R.sep
  bor := R.bor
  obor := R.obor
  ent := R.ent
  fnew := fun b q => q.elim (R.fnew b) fun q => .inr (by rw [q]; exact h0)
  f0 := fun b q => .inl (R.f0 b q)
  trk := fun b q => q.elim (R.trk b) fun q => by rw [q]; exact ht
  pin := fun p hp => let ⟨x, b, c⟩ := R.pin p hp; ⟨.inl x, b, c.keep (.more fun _ z => .inl z)⟩
end
section
variable {C : Pr} {F F0 F' F2 : Addr → Prop} {H H' H2 Hs : Hp} {σ : L2.St} {ρ ρ' ρ2 ρ0 : Env}
theorem Rel.noown (R0 : Rel C F0 Hs σ ρ0) (x : Ext σ ρ0 ρ F0 Hs F H) {a : Addr} (n : Hs a = none) : ¬ Own σ ρ a := fun z => by
  obtain ⟨i, s, d, h1, h2, h3⟩ := x.own a z
  obtain ⟨b, e1, _, t, _⟩ := R0.mt i s d h1 h2
  rw [h3] at e1
  cases e1
  obtain ⟨o, q, _⟩ := t.at_
  rw [n] at q
  cases q
theorem RepS.fz {v : V} {r : SV} (R0 : Rel C F0 Hs σ ρ0) (x : Ext σ ρ0 ρ F0 Hs F H) (R : Rel C F H σ ρ) (h : RepS C.K F H Hs v r) :
    ∃ F', Ext σ ρ0 ρ F0 Hs F' H ∧ Rel C F' H σ ρ ∧ Rep C.K F' H v r.d := by
  cases r with
  | frz d => exact ⟨F, x, R, h⟩
  | own d =>
    obtain ⟨a, e, nf, t, n⟩ := h
    subst e
    obtain ⟨o, ho, _⟩ := t.at_
    refine ⟨fun b => F b ∨ b = a, ⟨fun b q => .inl (x.sub b q), x.keep, fun b q => q.elim (x.new b) fun q => .inr (.inl (by rw [q]; exact n)), x.own, x.bk⟩, R.more (R0.h0 n) ⟨o, ho⟩ (R0.noown x n), ?_⟩
    exact (t.keep (.more fun _ z => .inl z) fun _ q => q).rep (.inr rfl)
  | bor d => exact h.elim
end

/-! ### readings -/
/-- what a context must have for the data of C -/
structure JC (X : Cx) (C : Pr) : Prop where
  k : C.K = X.K
  tk : Takes X C.W
def exP (C : Pr) (σ : L2.St) (ρ : Env) (F : Addr → Prop) (H : Hp) (P : O → Env → Prop) : Prop :=
  ∀ c x ρ', P (.ex c x) ρ' → ∀ cls dd H' F', Ext σ ρ ρ' F H F' H' → Rel C F' H' σ ρ' → XOk C.K F' H' H cls dd c x → C.W cls (some dd) σ H'
/-- as lE, the value read only -/
def lV (C : Pr) (f : DE) : TE := fun σ H Q => ∃ (ρ : Env) (F : Addr → Prop) (P : O → Env → Prop), Rel C F H σ ρ ∧ f ρ P ∧
  (∀ r ρ', P (.ok r) ρ' → ∀ v H' F', Ext σ ρ ρ' F H F' H' → Rel C F' H' σ ρ' → Rp1 C.K F' H' v r.d → Q v H') ∧ exP C σ ρ F H P
/-- a test -/
def lT (C : Pr) (f : DE) : TT := fun σ H Q => ∃ (ρ : Env) (F : Addr → Prop) (P : O → Env → Prop), Rel C F H σ ρ ∧ f ρ P ∧
  (∀ r ρ', P (.ok r) ρ' → ∃ b, r = .frz (.bl b) ∧ ∀ H' F', Ext σ ρ ρ' F H F' H' → Rel C F' H' σ ρ' → Q b H') ∧ exP C σ ρ F H P
inductive AO where
  | ok (ds : List D) | ex (c : Str) (x : D)
abbrev DA := Env → (AO → Env → Prop) → Prop
def exA (C : Pr) (σ : L2.St) (ρ : Env) (F : Addr → Prop) (H : Hp) (P : AO → Env → Prop) : Prop :=
  ∀ c x ρ', P (.ex c x) ρ' → ∀ cls dd H' F', Ext σ ρ ρ' F H F' H' → Rel C F' H' σ ρ' → XOk C.K F' H' H cls dd c x → C.W cls (some dd) σ H'
def lA (C : Pr) (f : DA) : TA := fun σ H Q => ∃ (ρ : Env) (F : Addr → Prop) (P : AO → Env → Prop), Rel C F H σ ρ ∧ f ρ P ∧
  (∀ ds ρ', P (.ok ds) ρ' → ∀ vs H' F', Ext σ ρ ρ' F H F' H' → Rel C F' H' σ ρ' → RepL C.K F' H' vs ds → Q vs H') ∧ exA C σ ρ F H P
/-- one value, read only, as an argument list -/
def lA1 (C : Pr) (f : DA) : TA := fun σ H Q => ∃ (ρ : Env) (F : Addr → Prop) (P : AO → Env → Prop), Rel C F H σ ρ ∧ f ρ P ∧
  (∀ ds ρ', P (.ok ds) ρ' → ∀ vs H' F', Ext σ ρ ρ' F H F' H' → Rel C F' H' σ ρ' → Rp1L C.K F' H' vs ds → Q vs H') ∧ exA C σ ρ F H P
section
variable {X : Cx} {C : Pr} {e a b : Expr} {es : List Expr} {f fa fb ft : DE} {pos : Pos}
theorem XOk.back {K : PySem.W.Frag} {F F' : Addr → Prop} {H H' Hs Hs' : Hp} {cls : Value} {dd : Addr} {c : Str} {x : D} (h : XOk K F H Hs' cls dd c x) (n : Hs' dd = none → Hs dd = none) : XOk K F H Hs cls dd c x :=
  ⟨h.1, n h.2.1, h.2.2⟩
theorem PE.imp {t t' : TE} (h : PE X e t) (i : ∀ σ H Q, t' σ H Q → t σ H Q) : PE X e t' := ⟨fun pins s σ H Q I q => h.run pins s σ H Q I (i _ _ _ q)⟩
theorem PT.imp {t t' : TT} (h : PT X e t) (i : ∀ σ H Q, t' σ H Q → t σ H Q) : PT X e t' := ⟨fun pins s σ H Q I q => h.run pins s σ H Q I (i _ _ _ q)⟩
theorem PW.imp {t t' : TT} (h : PW X e t) (i : ∀ σ H Q, t' σ H Q → t σ H Q) : PW X e t' := ⟨fun w pins s σ H Q I q => h.run w pins s σ H Q I (i _ _ _ q)⟩
theorem PA.imp {t t' : TA} (h : PA X es t) (i : ∀ σ H Q, t' σ H Q → t σ H Q) : PA X es t' := ⟨fun p pins s σ H Q I q => h.run p pins s σ H Q I (i _ _ _ q)⟩
theorem jv_of (h : PE X e (lE C f)) : PE X e (lV C f) := PE.imp h fun σ H Q ⟨ρ, F, P, R, hf, k1, k2⟩ => ⟨ρ, F, P, R, hf, fun r ρ' p v H' F' x R' rs => k1 r ρ' p v H' F' x R' rs.rp1, k2⟩
end
end Ow

set_option Elab.async false
set_option linter.all false
set_option maxRecDepth 100000
set_option maxHeartbeats 2000000
namespace Ow
open PySem PySem.Spec L2
set_option autoImplicit false

/-! ### expressions -/
def dC (d : D) : DE := fun ρ P => P (.ok (.frz d)) ρ
def dVar (i : Nat) : DE := fun ρ P => match ρ[i]? with
  | some (some (.frz d)) => P (.ok (.frz d)) ρ
  | some (some (.own d)) => P (.ok (.frz d)) (ρ.set i (some (.frz d)))
  | _ => False
def dVarV (i : Nat) : DE := fun ρ P => match ρ[i]? with
  | some (some s) => P (.ok s) ρ
  | _ => False
def dThen (f : DE) (k : SV → Env → (O → Env → Prop) → Prop) : DE := fun ρ P => f ρ fun o ρ1 => match o with
  | .ok r => k r ρ1 P
  | .ex c x => P (.ex c x) ρ1
def dOp (o : Op2) (fa fb : DE) : DE := dThen fa fun r => dThen fb fun r2 ρ2 P => o r.d r2.d fun s => P (.ok s) ρ2
section
variable {C : Pr} {f f2 : DE} {k : SV → Env → (O → Env → Prop) → Prop} {σ : L2.St} {H : Hp} {Q T : VK}
theorem RepS.bk {K : PySem.W.Frag} {F : Addr → Prop} {H Hs Hs' : Hp} {v : V} {r : SV} (h : RepS K F H Hs' v r) (n : ∀ a, Hs' a = none → Hs a = none) : RepS K F H Hs v r := by
  cases r with
  | frz d => exact h
  | own d => obtain ⟨a, e, nf, t, z⟩ := h; exact ⟨a, e, nf, t, n a z⟩
  | bor d => exact h
theorem XOk.bk {K : PySem.W.Frag} {F : Addr → Prop} {H Hs Hs' : Hp} {cls : Value} {dd : Addr} {c : Str} {x : D} (h : XOk K F H Hs' cls dd c x) (n : ∀ a, Hs' a = none → Hs a = none) : XOk K F H Hs cls dd c x :=
  ⟨h.1, n _ h.2.1, h.2.2⟩
theorem exP.bk {σ : L2.St} {ρ ρ' : Env} {F F' : Addr → Prop} {H H' : Hp} {P : O → Env → Prop} (h : exP C σ ρ F H P) (x : Ext σ ρ ρ' F H F' H') : exP C σ ρ' F' H' P :=
  fun c y ρ2 p cls dd H2 F2 x2 R2 z => h c y ρ2 p cls dd H2 F2 (x.trans x2) R2 (z.bk x.bk)
theorem sE {ρ : Env} {F : Addr → Prop} {P : O → Env → Prop} (R : Rel C F H σ ρ) (q : dThen f k ρ P) (k2 : exP C σ ρ F H P)
    (i : ∀ (r : SV) (ρ1 : Env) (v : V) (H1 : Hp) (F1 : Addr → Prop), Ext σ ρ ρ1 F H F1 H1 → Rel C F1 H1 σ ρ1 → Rep C.K F1 H1 v r.d → k r ρ1 P → T v H1) : lE C f σ H T := by
  refine ⟨ρ, F, _, R, q, fun r ρ1 p v H1 F1 x R1 rs => ?_, fun c y ρ1 p => k2 c y ρ1 p⟩
  obtain ⟨F2, x2, R2, rv⟩ := RepS.fz R x R1 rs
  exact i r ρ1 v H1 F2 x2 R2 rv p
theorem sV {ρ : Env} {F : Addr → Prop} {P : O → Env → Prop} (R : Rel C F H σ ρ) (q : dThen f k ρ P) (k2 : exP C σ ρ F H P)
    (i : ∀ (r : SV) (ρ1 : Env) (v : V) (H1 : Hp) (F1 : Addr → Prop), Ext σ ρ ρ1 F H F1 H1 → Rel C F1 H1 σ ρ1 → Rp1 C.K F1 H1 v r.d → k r ρ1 P → T v H1) : lV C f σ H T := by
  exact ⟨ρ, F, _, R, q, fun r ρ1 p v H1 F1 x R1 rs => i r ρ1 v H1 F1 x R1 rs p, fun c y ρ1 p => k2 c y ρ1 p⟩
theorem lT_lE {f : DE} {Q : Bool → Hp → Prop} (h : lT C f σ H Q) : lE C f σ H fun x H' => ∃ b, x = .bl b ∧ Q b H' := by
  obtain ⟨ρ, F, P, R, hf, k1, k2⟩ := h
  refine ⟨ρ, F, P, R, hf, fun r ρ1 p v H1 F1 x R1 rs => ?_, k2⟩
  obtain ⟨b, e, q⟩ := k1 r ρ1 p
  subst e
  cases rs
  exact ⟨b, rfl, q H1 F1 x R1⟩
end
section
variable {X : Cx} {C : Pr} {e a b c : Expr} {es : List Expr} {f fa fb fc ft : DE} {pos : Pos}
theorem je_c {v : V} {d : D} (h : PE X e (tC v)) (r : ∀ K F H, Rep K F H v d) : PE X e (lE C (dC d)) := PE.imp h fun σ H Q ⟨ρ, F, P, R, hf, k1, k2⟩ =>
  k1 _ ρ hf v H F Ext.refl R (r _ _ _)
theorem je_int {i : Int} {j : Nat} : PE X (.Constant (.int i) j pos) (lE C (dC (.int i))) := je_c pe_int fun _ _ _ => .int _
theorem je_bl {i : Bool} {j : Nat} : PE X (.Constant (.bool i) j pos) (lE C (dC (.bl i))) := je_c pe_bl fun _ _ _ => .bl _
theorem je_str {i : Str} {j : Nat} : PE X (.Constant (.str i) j pos) (lE C (dC (.str i))) := je_c pe_str fun _ _ _ => .str _
theorem je_non {j : Nat} : PE X (.Constant .none j pos) (lE C (dC .non)) := je_c pe_non fun _ _ _ => .non
theorem Rel.fzv {F : Addr → Prop} {H : Hp} {σ : L2.St} {ρ : Env} {i : Nat} {d : D} {a : Addr} (R : Rel C F H σ ρ) (h : ρ[i]? = some (some (.own d))) (hs : σ[i]? = some (some (.ref a))) :
    Rel C (fun x => F x ∨ x = a) H σ (ρ.set i (some (.frz d))) ∧ Ext σ ρ (ρ.set i (some (.frz d))) F H (fun x => F x ∨ x = a) H ∧ Rep C.K (fun x => F x ∨ x = a) H (.ref a) d := by
  obtain ⟨b, e1, nf, t, z⟩ := R.mt i _ d h rfl
  rw [hs] at e1
  cases e1
  obtain ⟨o, ho, _⟩ := t.at_
  have hr : Rep C.K (fun x => F x ∨ x = a) H (.ref a) d := (t.keep (.more fun _ z => .inl z) fun _ q => q).rep (.inr rfl)
  have hnb : a ∉ C.bs := fun hb => by
    obtain ⟨j, hj⟩ := List.mem_iff_getElem?.mp hb
    obtain ⟨h1, d', h2⟩ := R.bor j a hj
    have e : i = j := R.sep i j _ _ _ _ a h h2 rfl rfl hs h1
    subst e
    rw [h] at h2
    cases h2
  have h0 : C.H0 a = none := z.resolve_left hnb
  refine ⟨⟨by rw [List.length_set]; exact R.len, fun j d' hj => ?_, fun j s d' hj m => ?_, fun j l s u d1 d2 b hj hl m1 m2 q1 q2 => ?_, fun j b hj => ?_, fun j d' hj => ?_, R.ent,
    fun b q => q.elim (R.fnew b) fun q => .inr (by rw [q]; exact h0), fun b q => .inl (R.f0 b q), fun b q => q.elim (R.trk b) fun q => by rw [q]; exact ⟨o, ho⟩, fun p hp => let ⟨x, b, c⟩ := R.pin p hp; ⟨.inl x, b, c.keep (.more fun _ z => .inl z)⟩⟩,
    ⟨fun _ q => .inl q, fun _ _ q _ => q, fun b q => q.elim .inl fun q => .inr (.inr ⟨i, _, d, h, rfl, by rw [q]; exact hs⟩), fun b ⟨j, s, d', hj, m, q⟩ => ?_, fun _ q => q⟩, hr⟩
  · rcases set_get hj with ⟨e, e2, _⟩ | ⟨e, hj⟩
    · subst e
      cases e2
      exact ⟨_, hs, hr⟩
    · obtain ⟨v, x, y⟩ := R.frz j d' hj
      exact ⟨v, x, y.keep (.more fun _ z => .inl z)⟩
  · rcases set_get hj with ⟨e, e2, _⟩ | ⟨e, hj⟩
    · cases e2
      cases m
    · obtain ⟨b, x, y, w, u⟩ := R.mt j s d' hj m
      exact ⟨b, x, fun q => q.elim y fun q => e (R.sep j i _ _ _ _ a hj h m rfl (by rw [← q]; exact x) hs), w.keep (.more fun _ z => .inl z) fun _ q => q, u⟩
  · rcases set_get hj with ⟨e, e2, _⟩ | ⟨e, hj⟩
    · cases e2
      cases m1
    · rcases set_get hl with ⟨e', e2, _⟩ | ⟨e', hl⟩
      · cases e2
        cases m2
      · exact R.sep j l s u d1 d2 b hj hl m1 m2 q1 q2
  · obtain ⟨x, d', y⟩ := R.bor j b hj
    have ne : j ≠ i := fun q => by
      subst q
      rw [h] at y
      cases y
    exact ⟨x, d', by rw [get_set_ne ne]; exact y⟩
  · rcases set_get hj with ⟨e, e2, _⟩ | ⟨e, hj⟩
    · cases e2
    · exact R.obor j d' hj
  · rcases set_get hj with ⟨e, e2, _⟩ | ⟨e, hj⟩
    · cases e2
      cases m
    · exact ⟨j, s, d', hj, m, q⟩
theorem je_var {i : Nat} (h : PE X e (tVar i)) : PE X e (lE C (dVar i)) := PE.imp h fun σ H Q ⟨ρ, F, P, R, hf, k1, k2⟩ => by
  unfold dVar at hf
  split at hf
  · rename_i d e1
    obtain ⟨v, h1, h2⟩ := R.frz i d e1
    exact ⟨v, h1, k1 _ ρ hf v H F Ext.refl R h2⟩
  · rename_i d e1
    obtain ⟨a, h1, _⟩ := R.mt i _ d e1 rfl
    obtain ⟨R', x, r⟩ := R.fzv e1 h1
    exact ⟨_, h1, k1 _ _ hf _ H _ x R' r⟩
  · exact hf.elim
theorem Rel.rp1 {F : Addr → Prop} {H : Hp} {σ : L2.St} {ρ : Env} {i : Nat} {s : SV} (R : Rel C F H σ ρ) (h : ρ[i]? = some (some s)) : ∃ v, σ[i]? = some (some v) ∧ Rp1 C.K F H v s.d := by
  cases s with
  | frz d =>
    obtain ⟨v, h1, h2⟩ := R.frz i d h
    exact ⟨v, h1, .inl h2⟩
  | own d =>
    obtain ⟨a, h1, _, t, _⟩ := R.mt i _ d h rfl
    exact ⟨_, h1, .inr ⟨a, rfl, t⟩⟩
  | bor d =>
    obtain ⟨a, h1, _, t, _⟩ := R.mt i _ d h rfl
    exact ⟨_, h1, .inr ⟨a, rfl, t⟩⟩
theorem jv_var {i : Nat} (h : PE X e (tVar i)) : PE X e (lV C (dVarV i)) := PE.imp h fun σ H Q ⟨ρ, F, P, R, hf, k1, k2⟩ => by
  unfold dVarV at hf
  split at hf
  · rename_i s e1
    obtain ⟨v, h1, h2⟩ := R.rp1 e1
    exact ⟨v, h1, k1 _ ρ hf v H F Ext.refl R h2⟩
  · exact hf.elim
theorem en_op (hC : JC X C) {o : Op2} {σ : L2.St} {H : Hp} {Q : VK} (h : lE C (dOp o fa fb) σ H Q) : tOp (rO2 X.K o) (lE C fa) (lV C fb) σ H Q := by
  obtain ⟨ρ, F, P, R, hf, k1, k2⟩ := h
  refine sE R hf k2 fun r ρ1 v H1 F1 x1 R1 rv q1 => ?_
  refine sV R1 q1 (exP.bk k2 x1) fun r2 ρ2 w H2 F2 x2 R2 rw' q2 => ?_
  rw [← hC.k]
  exact ⟨F2, r.d, r2.d, _, .inl (rv.keep (x2.keeps R1)), rw', q2, fun s ps u H' sm rn => k1 s ρ2 ps u H' F2 ((x1.trans x2).trans (Ext.same sm)) (R2.same sm) ((rn.reps R2.trk).bk fun a z => (x1.trans x2).bk a z)⟩
theorem je_op (hC : JC X C) {op : Operator} {o : Op2} (ho : OpR X (binaryOp op) (rO2 X.K o)) (ha : PE X a (lE C fa)) (hb : PE X b (lV C fb)) : PE X (.BinOp a op b pos) (lE C (dOp o fa fb)) :=
  PE.imp (pe_op ho ha hb) fun _ _ _ h => en_op hC h
theorem je_cmp (hC : JC X C) {op : CmpOp} {o : Op2} (ho : OpR X (compareOp op) (rO2 X.K o)) (ha : PE X a (lE C fa)) (hb : PE X b (lV C fb)) (hm : behindInMarks op b = false) : PE X (.Compare a [op] [b] pos) (lE C (dOp o fa fb)) :=
  PE.imp (pe_cmpR ho ha hb hm) fun _ _ _ h => en_op hC h
theorem jt_cmp (hC : JC X C) {op : CmpOp} {o : Op2} (ho : OpR X (compareOp op) (rO2 X.K o)) (ha : PE X a (lE C fa)) (hb : PE X b (lV C fb)) (hm : behindInMarks op b = false) : PT X (.Compare a [op] [b] pos) (lT C (dOp o fa fb)) :=
  PT.imp (pt_cmpR ho ha hb hm) fun _ _ _ h => en_op hC (lT_lE h)
/-- a value that is a bool, as a test -/
theorem jt_val (h : PE X e (lE C f)) (he : ∀ whole, isTrue e X.env whole = (do let v ← whole; standAt e.pos; holding [v] (truthy v)) := by intro _; rfl) : PT X e (lT C f) :=
  PT.imp (pt_val h he) fun _ _ _ h => lT_lE h
/-- the truth of a value -/
def D.tru : D → Option Bool
  | .non => some false
  | .bl b => some b
  | .int i => some (i != 0)
  | .str s => if s.length ≤ sizeLine then some ((s.length : Int) != 0) else none
  | .lst ds => some (!ds.isEmpty)
  | .arr ds => some (!ds.isEmpty)
  | .tup ds => some (!ds.isEmpty)
  | .dK ds => some (!ds.isEmpty)
  | .obj _ _ => none
  | .ptr _ => none
def dTru (f : DE) : DE := dThen f fun r ρ P => match r.d.tru with
  | some b => P (.ok (.frz (.bl b))) ρ
  | none => False
theorem RepL.emp {K : PySem.W.Frag} {F : Addr → Prop} {H : Hp} : ∀ {xs : List V} {ds : List D}, RepL K F H xs ds → (!ds.isEmpty) = !xs.isEmpty
  | _, _, .nil => rfl
  | _, _, .cons _ _ => rfl
theorem RepK.emp {K : PySem.W.Frag} {F : Addr → Prop} {H : Hp} : ∀ {xs : List (Key × V)} {ds : List (Key × D)}, RepK K F H xs ds → (!ds.isEmpty) = !xs.isEmpty
  | _, _, .nil => rfl
  | _, _, .cons _ _ => rfl
theorem tru_v {K : PySem.W.Frag} {F : Addr → Prop} {H : Hp} {v : V} {d : D} {b : Bool} (r : Rp1 K F H v d) (h : d.tru = some b) : TruV K v H b := by
  cases d with
  | non => have e := r.non; subst e; cases h; rfl
  | bl b => have e := r.bl; subst e; cases h; rfl
  | int b => have e := r.int; subst e; cases h; rfl
  | str s =>
    have e := r.str
    subst e
    have h' : (if s.length ≤ sizeLine then some ((s.length : Int) != 0) else none) = some b := h
    by_cases hl : s.length ≤ sizeLine
    · rw [if_pos hl] at h'
      cases h'
      exact ⟨hl, rfl⟩
    · rw [if_neg hl] at h'
      cases h'
  | lst ds =>
    obtain ⟨a, xs, rfl, hx, rr⟩ := r.lst
    cases h
    exact .inl ⟨xs, .of hx, rr.emp⟩
  | arr ds =>
    obtain ⟨a, xs, rfl, hx, rr⟩ := r.arr
    cases h
    exact .inl ⟨xs, hx, rr.emp⟩
  | tup ds =>
    obtain ⟨a, xs, rfl, hx, rr⟩ := r.tup
    cases h
    exact .inr (.inl ⟨xs, hx, rr.emp⟩)
  | dK ds =>
    obtain ⟨a, xs, rfl, hx, rr⟩ := r.dK
    cases h
    exact .inr (.inr ⟨xs, hx, rr.emp⟩)
  | obj c fs => cases h
  | ptr a => cases h
theorem jt_tru (hC : JC X C) (ha : PE X e (lV C f)) (he : ∀ whole, isTrue e X.env whole = (do let v ← whole; standAt e.pos; holding [v] (truthy v)) := by intro _; rfl) : PT X e (lT C (dTru f)) :=
  PT.imp (pt_truth ha he) fun σ H Q ⟨ρ, F, P, R, hf, k1, k2⟩ => by
    refine sV R hf k2 fun r ρ1 v H1 F1 x1 R1 rv q1 => ?_
    split at q1
    · rename_i b hb
      obtain ⟨b', e', q⟩ := k1 _ _ q1
      cases e'
      exact ⟨b, by rw [← hC.k]; exact tru_v rv hb, q H1 F1 x1 R1⟩
    · exact q1.elim
/-! and, or, not, if -/
def onB (r : SV) (A B : Prop) : Prop := match r with
  | .frz (.bl true) => A
  | .frz (.bl false) => B
  | _ => False
theorem of_bl {r : SV} {A B : Prop} (h : onB r A B) : ∃ b, r = .frz (.bl b) := by
  unfold onB at h
  split at h
  · exact ⟨_, rfl⟩
  · exact ⟨_, rfl⟩
  · exact h.elim
def dAnd (f g : DE) : DE := dThen f fun r ρ P => onB r (g ρ P) (P (.ok (.frz (.bl false))) ρ)
def dOr (f g : DE) : DE := dThen f fun r ρ P => onB r (P (.ok (.frz (.bl true))) ρ) (g ρ P)
def dNot (f : DE) : DE := dThen f fun r ρ P => onB r (P (.ok (.frz (.bl false))) ρ) (P (.ok (.frz (.bl true))) ρ)
def dIfE (t f g : DE) : DE := dThen t fun r ρ P => onB r (f ρ P) (g ρ P)
/-- a test, then something -/
theorem sT {k : SV → Env → (O → Env → Prop) → Prop} {σ : L2.St} {H : Hp} {T : Bool → Hp → Prop} {ρ : Env} {F : Addr → Prop} {P : O → Env → Prop} (R : Rel C F H σ ρ) (q : dThen f k ρ P) (k2 : exP C σ ρ F H P)
    (hb : ∀ r ρ1, k r ρ1 P → ∃ b, r = .frz (.bl b))
    (i : ∀ (b : Bool) (ρ1 : Env) (H1 : Hp) (F1 : Addr → Prop), Ext σ ρ ρ1 F H F1 H1 → Rel C F1 H1 σ ρ1 → k (.frz (.bl b)) ρ1 P → T b H1) : lT C f σ H T := by
  refine ⟨ρ, F, _, R, q, fun r ρ1 p => ?_, fun c y ρ1 p => k2 c y ρ1 p⟩
  obtain ⟨b, e⟩ := hb r ρ1 p
  subst e
  exact ⟨b, rfl, fun H1 F1 x R1 => i b ρ1 H1 F1 x R1 p⟩
theorem lT_st {σ : L2.St} {H : Hp} {Q : Bool → Hp → Prop} {ρ ρ0 : Env} {F F0 : Addr → Prop} {H0 : Hp} {P : O → Env → Prop} (x : Ext σ ρ0 ρ F0 H0 F H) (R : Rel C F H σ ρ) (q : f ρ P)
    (k1 : ∀ r ρ', P (.ok r) ρ' → ∃ b, r = .frz (.bl b) ∧ ∀ H' F', Ext σ ρ0 ρ' F0 H0 F' H' → Rel C F' H' σ ρ' → Q b H') (k2 : exP C σ ρ0 F0 H0 P) : lT C f σ H Q :=
  ⟨ρ, F, P, R, q, fun r ρ' p => let ⟨b, e, z⟩ := k1 r ρ' p; ⟨b, e, fun H' F' x' R' => z H' F' (x.trans x') R'⟩, exP.bk k2 x⟩
theorem lE_st {σ : L2.St} {H : Hp} {Q : VK} {ρ ρ0 : Env} {F F0 : Addr → Prop} {H0 : Hp} {P : O → Env → Prop} (x : Ext σ ρ0 ρ F0 H0 F H) (R : Rel C F H σ ρ) (q : f ρ P)
    (k1 : ∀ r ρ', P (.ok r) ρ' → ∀ v H' F', Ext σ ρ0 ρ' F0 H0 F' H' → Rel C F' H' σ ρ' → RepS C.K F' H' H0 v r → Q v H') (k2 : exP C σ ρ0 F0 H0 P) : lE C f σ H Q :=
  ⟨ρ, F, P, R, q, fun r ρ' p v H' F' x' R' rs => k1 r ρ' p v H' F' (x.trans x') R' (rs.bk x.bk), exP.bk k2 x⟩
variable {rest : List Expr}
theorem jw_and1 (ha : PT X a (lT C fa)) : PW X (.BoolOp .And [a] pos) (lT C fa) := pw_and1 ha
theorem jw_or1 (ha : PT X a (lT C fa)) : PW X (.BoolOp .Or [a] pos) (lT C fa) := pw_or1 ha
theorem jw_and (ha : PT X a (lT C fa)) (hb : PW X (.BoolOp .And (b :: rest) pos) (lT C fb)) : PW X (.BoolOp .And (a :: b :: rest) pos) (lT C (dAnd fa fb)) :=
  PW.imp (pw_and ha hb) fun σ H Q ⟨ρ, F, P, R, hf, k1, k2⟩ => by
    refine sT R hf k2 (fun r ρ1 h => of_bl h) fun b ρ1 H1 F1 x1 R1 q1 => ?_
    cases b with
    | true => exact lT_st x1 R1 q1 k1 k2
    | false =>
      obtain ⟨b', e', q⟩ := k1 _ _ q1
      cases e'
      exact q H1 F1 x1 R1
theorem jw_or (ha : PT X a (lT C fa)) (hb : PW X (.BoolOp .Or (b :: rest) pos) (lT C fb)) : PW X (.BoolOp .Or (a :: b :: rest) pos) (lT C (dOr fa fb)) :=
  PW.imp (pw_or ha hb) fun σ H Q ⟨ρ, F, P, R, hf, k1, k2⟩ => by
    refine sT R hf k2 (fun r ρ1 h => of_bl h) fun b ρ1 H1 F1 x1 R1 q1 => ?_
    cases b with
    | false => exact lT_st x1 R1 q1 k1 k2
    | true =>
      obtain ⟨b', e', q⟩ := k1 _ _ q1
      cases e'
      exact q H1 F1 x1 R1
theorem jt_pw {e : Expr} (h : PW X e (lT C f)) : PT X e (lT C f) := h.pt
theorem jt_not (ha : PT X a (lT C fa)) : PT X (.UnaryOp .Not a pos) (lT C (dNot fa)) :=
  PT.imp (pt_not ha) fun σ H Q ⟨ρ, F, P, R, hf, k1, k2⟩ => by
    refine sT R hf k2 (fun r ρ1 h => of_bl h) fun b ρ1 H1 F1 x1 R1 q1 => ?_
    cases b with
    | true =>
      obtain ⟨b', e', q⟩ := k1 _ _ q1
      cases e'
      exact q H1 F1 x1 R1
    | false =>
      obtain ⟨b', e', q⟩ := k1 _ _ q1
      cases e'
      exact q H1 F1 x1 R1
theorem je_ifE (hc : PT X c (lT C ft)) (ha : PE X a (lE C fa)) (hb : PE X b (lE C fb)) : PE X (.IfExp c a b pos) (lE C (dIfE ft fa fb)) :=
  PE.imp (pe_ifExp hc ha hb) fun σ H Q ⟨ρ, F, P, R, hf, k1, k2⟩ => by
    refine sT R hf k2 (fun r ρ1 h => of_bl h) fun b ρ1 H1 F1 x1 R1 q1 => ?_
    cases b with
    | true => exact lE_st x1 R1 q1 k1 k2
    | false => exact lE_st x1 R1 q1 k1 k2
/-- as values: bools -/
theorem sB {k : SV → Env → (O → Env → Prop) → Prop} {σ : L2.St} {H : Hp} {T : VK} {ρ : Env} {F : Addr → Prop} {P : O → Env → Prop} (R : Rel C F H σ ρ) (q : dThen f k ρ P) (k2 : exP C σ ρ F H P)
    (hb : ∀ r ρ1, k r ρ1 P → ∃ b, r = .frz (.bl b))
    (i : ∀ (b : Bool) (ρ1 : Env) (H1 : Hp) (F1 : Addr → Prop), Ext σ ρ ρ1 F H F1 H1 → Rel C F1 H1 σ ρ1 → k (.frz (.bl b)) ρ1 P → T (.bl b) H1) : lE C f σ H T := by
  refine ⟨ρ, F, _, R, q, fun r ρ1 p v H1 F1 x R1 rs => ?_, fun c y ρ1 p => k2 c y ρ1 p⟩
  obtain ⟨b, e⟩ := hb r ρ1 p
  subst e
  cases rs
  exact i b ρ1 H1 F1 x R1 p
theorem je_one {op : BoolOp} (h : PE X a (lE C f)) : PE X (.BoolOp op [a] pos) (lE C f) := pe_one h
theorem je_and (ha : PE X a (lE C fa)) (hb : PE X (.BoolOp .And (b :: rest) pos) (lE C fb)) : PE X (.BoolOp .And (a :: b :: rest) pos) (lE C (dAnd fa fb)) :=
  PE.imp (pe_and ha hb) fun σ H Q ⟨ρ, F, P, R, hf, k1, k2⟩ => by
    refine sB R hf k2 (fun r ρ1 h => of_bl h) fun b ρ1 H1 F1 x1 R1 q1 => ⟨b, rfl, ?_⟩
    cases b with
    | true => exact lE_st x1 R1 q1 k1 k2
    | false => exact k1 _ _ q1 _ H1 F1 x1 R1 (.bl _)
theorem je_or (ha : PE X a (lE C fa)) (hb : PE X (.BoolOp .Or (b :: rest) pos) (lE C fb)) : PE X (.BoolOp .Or (a :: b :: rest) pos) (lE C (dOr fa fb)) :=
  PE.imp (pe_or ha hb) fun σ H Q ⟨ρ, F, P, R, hf, k1, k2⟩ => by
    refine sB R hf k2 (fun r ρ1 h => of_bl h) fun b ρ1 H1 F1 x1 R1 q1 => ⟨b, rfl, ?_⟩
    cases b with
    | false => exact lE_st x1 R1 q1 k1 k2
    | true => exact k1 _ _ q1 _ H1 F1 x1 R1 (.bl _)
theorem je_not (ha : PE X a (lE C fa)) : PE X (.UnaryOp .Not a pos) (lE C (dNot fa)) :=
  PE.imp (pe_not ha) fun σ H Q ⟨ρ, F, P, R, hf, k1, k2⟩ => by
    refine sB R hf k2 (fun r ρ1 h => of_bl h) fun b ρ1 H1 F1 x1 R1 q1 => ⟨b, rfl, ?_⟩
    cases b with
    | true => exact k1 _ _ q1 _ H1 F1 x1 R1 (.bl _)
    | false => exact k1 _ _ q1 _ H1 F1 x1 R1 (.bl _)

/-! ### argument lists, displays -/
def daNil : DA := fun ρ P => P (.ok []) ρ
def daCons (f : DE) (g : DA) : DA := fun ρ P => f ρ fun o ρ1 => match o with
  | .ok r => g ρ1 fun ao ρ2 => match ao with
    | .ok ds => P (.ok (r.d :: ds)) ρ2
    | .ex c x => P (.ex c x) ρ2
  | .ex c x => P (.ex c x) ρ1
def daThen (g : DA) (k : List D → Env → (O → Env → Prop) → Prop) : DE := fun ρ P => g ρ fun ao ρ1 => match ao with
  | .ok ds => k ds ρ1 P
  | .ex c x => P (.ex c x) ρ1
theorem exA.bk {σ : L2.St} {ρ ρ' : Env} {F F' : Addr → Prop} {H H' : Hp} {P : AO → Env → Prop} (h : exA C σ ρ F H P) (x : Ext σ ρ ρ' F H F' H') : exA C σ ρ' F' H' P :=
  fun c y ρ2 p cls dd H2 F2 x2 R2 z => h c y ρ2 p cls dd H2 F2 (x.trans x2) R2 (z.bk x.bk)
theorem ja_nil : PA X [] (lA C daNil) := PA.imp pa_nil fun σ H Q ⟨ρ, F, P, R, hf, k1, k2⟩ => k1 _ _ hf _ H F Ext.refl R .nil
theorem ja_cons {g : DA} (ha : PE X e (lE C f)) (hr : PA X es (lA C g)) (hs : starEach (e :: es) X.env = (false, eval e X.env) :: starEach es X.env := by rfl) : PA X (e :: es) (lA C (daCons f g)) :=
  PA.imp (pa_cons ha hr hs) fun σ H Q ⟨ρ, F, P, R, hf, k1, k2⟩ => by
    refine ⟨ρ, F, _, R, hf, fun r ρ1 p v H1 F1 x R1 rs => ?_, fun c y ρ1 p => k2 c y ρ1 p⟩
    obtain ⟨F2, x2, R2, rv⟩ := RepS.fz R x R1 rs
    refine ⟨ρ1, F2, _, R2, p, fun ds ρ2 p2 vs H3 F3 x3 R3 rl => ?_, fun c y ρ2 p2 => exA.bk k2 x2 c y ρ2 p2⟩
    exact k1 _ _ p2 _ H3 F3 (x2.trans x3) R3 (.cons (rv.keep (x3.keeps R2)) rl)
theorem ja_one {g : DA} (ha : PE X e (lV C f)) (hs : starEach (e :: []) X.env = (false, eval e X.env) :: starEach [] X.env := by rfl) : PA X [e] (lA1 C (daCons f daNil)) :=
  PA.imp (pa_cons ha pa_nil hs) fun σ H Q ⟨ρ, F, P, R, hf, k1, k2⟩ => by
    refine ⟨ρ, F, _, R, hf, fun r ρ1 p v H1 F1 x R1 rs => ?_, fun c y ρ1 p => k2 c y ρ1 p⟩
    exact k1 _ _ p _ H1 F1 x R1 (.cons rs .nil)
theorem ja1_of {g : DA} (h : PA X es (lA C g)) : PA X es (lA1 C g) := PA.imp h fun σ H Q ⟨ρ, F, P, R, hf, k1, k2⟩ => ⟨ρ, F, P, R, hf, fun ds ρ' p vs H' F' x R' rl => k1 ds ρ' p vs H' F' x R' rl.rp1, k2⟩
theorem sA {g : DA} {k : List D → Env → (O → Env → Prop) → Prop} {σ : L2.St} {H : Hp} {T : List V → Hp → Prop} {ρ : Env} {F : Addr → Prop} {P : O → Env → Prop} (R : Rel C F H σ ρ) (q : daThen g k ρ P) (k2 : exP C σ ρ F H P)
    (i : ∀ (ds : List D) (ρ1 : Env) (vs : List V) (H1 : Hp) (F1 : Addr → Prop), Ext σ ρ ρ1 F H F1 H1 → Rel C F1 H1 σ ρ1 → RepL C.K F1 H1 vs ds → k ds ρ1 P → T vs H1) : lA C g σ H T :=
  ⟨ρ, F, _, R, q, fun ds ρ1 p vs H1 F1 x R1 rs => i ds ρ1 vs H1 F1 x R1 rs p, fun c y ρ1 p => k2 c y ρ1 p⟩
theorem sA1 {g : DA} {k : List D → Env → (O → Env → Prop) → Prop} {σ : L2.St} {H : Hp} {T : List V → Hp → Prop} {ρ : Env} {F : Addr → Prop} {P : O → Env → Prop} (R : Rel C F H σ ρ) (q : daThen g k ρ P) (k2 : exP C σ ρ F H P)
    (i : ∀ (ds : List D) (ρ1 : Env) (vs : List V) (H1 : Hp) (F1 : Addr → Prop), Ext σ ρ ρ1 F H F1 H1 → Rel C F1 H1 σ ρ1 → Rp1L C.K F1 H1 vs ds → k ds ρ1 P → T vs H1) : lA1 C g σ H T :=
  ⟨ρ, F, _, R, q, fun ds ρ1 p vs H1 F1 x R1 rs => i ds ρ1 vs H1 F1 x R1 rs p, fun c y ρ1 p => k2 c y ρ1 p⟩
def dTup (g : DA) : DE := daThen g fun ds ρ P => ds.length ≤ sizeLine ∧ P (.ok (.frz (.tup ds))) ρ
def dLst (g : DA) : DE := daThen g fun ds ρ P => ds.length ≤ sizeLine ∧ P (.ok (.own (.lst ds))) ρ
theorem je_tup {g : DA} {k : Nat} (h : PA X es (lA C g)) : PE X (.Tuple es k pos) (lE C (dTup g)) :=
  PE.imp (pe_tup h) fun σ H Q ⟨ρ, F, P, R, hf, k1, k2⟩ => by
    refine sA R hf k2 fun ds ρ1 vs H1 F1 x R1 rl q => ⟨by rw [rl.length]; exact q.1, fun p hp => ?_⟩
    exact k1 _ _ q.2 _ _ F1 (x.trans (Ext.same (same_new hp))) (R1.same (same_new hp)) (.tup (.of upd_same) (rl.keep (keeps_same (same_new hp))))
theorem je_lst {g : DA} (h : PA X es (lA C g)) : PE X (.List es pos) (lE C (dLst g)) :=
  PE.imp (pe_lst h) fun σ H Q ⟨ρ, F, P, R, hf, k1, k2⟩ => by
    refine sA R hf k2 fun ds ρ1 vs H1 F1 x R1 rl q => ⟨by rw [rl.length]; exact q.1, fun p hp => ?_⟩
    have rn : RepN C.K F1 (upd H1 p (.lst vs)) H1 (.ref p) (.own (.lst ds)) := ⟨p, rfl, .lst upd_same (rl.keep (keeps_same (same_new hp))), hp⟩
    exact k1 _ _ q.2 _ _ F1 (x.trans (Ext.same (same_new hp))) (R1.same (same_new hp)) ((rn.reps R1.trk).bk x.bk)
/-! ### built-ins by name -/
def dCall (o : OpN) (g : DA) : DE := daThen g fun ds ρ P => o ds fun s => P (.ok s) ρ
theorem en_cb (hC : JC X C) {o : OpN} {g : DA} {σ : L2.St} {H : Hp} {Q : VK} (h : lE C (dCall o g) σ H Q) : tCB (rON X.K o) (lA1 C g) σ H Q := by
  obtain ⟨ρ, F, P, R, hf, k1, k2⟩ := h
  refine sA1 R hf k2 fun ds ρ1 vs H1 F1 x R1 rl q => ?_
  rw [← hC.k]
  exact ⟨F1, ds, _, rl, q, fun s ps u H' sm rn => k1 s ρ1 ps u H' F1 (x.trans (Ext.same sm)) (R1.same sm) ((rn.reps R1.trk).bk x.bk)⟩
theorem je_cb (hC : JC X C) {id : String} {x : Str} {p : Pos} {o : OpN} {g : DA} (ho : CallR X (.builtin id) (rON X.K o)) (hg : Gl X x) (hm : X.mg x = none) (hv : bootBuiltins x = some (.builtin id)) (ha : PA X (e :: es) (lA1 C g))
    (hn : x ≠ "__name__" := by decide) (hdb : (x == ("__debug__" : Str)) = false := by decide)
    (he : starEach (e :: es) X.env = (false, eval e X.env) :: starEach es X.env := by rfl) (hpl : (backTo pos (starEach es X.env)).any (·.1) = false := by rfl) :
    PE X (.Call (.Name x p) (e :: es) [] pos) (lE C (dCall o g)) := PE.imp (pe_callB ho hg hm hv ha hn hdb he hpl) fun _ _ _ h => en_cb hC h
theorem je_cty (hC : JC X C) {T : String} {x : Str} {p : Pos} {o : OpN} {g : DA} (ho : CallR X (.type T) (rON X.K o)) (hg : Gl X x) (hm : X.mg x = none) (hv : bootBuiltins x = some (.type T)) (ha : PA X (e :: es) (lA1 C g))
    (hn : x ≠ "__name__" := by decide) (hdb : (x == ("__debug__" : Str)) = false := by decide)
    (he : starEach (e :: es) X.env = (false, eval e X.env) :: starEach es X.env := by rfl) (hpl : (backTo pos (starEach es X.env)).any (·.1) = false := by rfl) :
    PE X (.Call (.Name x p) (e :: es) [] pos) (lE C (dCall o g)) := PE.imp (pe_callTy ho hg hm hv ha hn hdb he hpl) fun _ _ _ h => en_cb hC h
end
end Ow

set_option Elab.async false
set_option linter.all false
set_option maxRecDepth 100000
set_option maxHeartbeats 2000000
namespace Ow
open PySem PySem.Spec L2
set_option autoImplicit false

section
variable {C : Pr} {F F' : Addr → Prop} {H H' : Hp} {σ : L2.St} {ρ : Env}
/-- the object of a slot is changed in place -/
theorem Rel.upd (R : Rel C F H σ ρ) {i : Nat} {s : SV} {c c' : D} {a : Addr} (h : ρ[i]? = some (some s)) (m : s.mt = some c) (hs : σ[i]? = some (some (.ref a)))
    (sub : ∀ b, F b → F' b) (new : ∀ b, F' b → F b ∨ H b = none) (trk : ∀ b, F' b → ∃ o, H' b = some o) (kp : ∀ b o, H b = some o → b ≠ a → H' b = some o) (bk : ∀ b, H' b = none → H b = none) (t : Top C.K F' H' a c') :
    Rel C F' H' σ (ρ.set i (some (s.put c'))) ∧ Ext σ ρ (ρ.set i (some (s.put c'))) F H F' H' := by
  obtain ⟨a', e1, nf, t0, z⟩ := R.mt i s c h m
  rw [hs] at e1
  cases e1
  have own : Own σ ρ a := ⟨i, s, c, h, m, hs⟩
  have K1 : Keeps C.K F H F' H' := ⟨sub, fun b o f q => kp b o q fun e => nf (e ▸ f), fun b o q tp => kp b o q fun e => R.ntup q tp (e ▸ own)⟩
  have nf' : ¬ F' a := fun f => (new a f).elim nf fun q => by
    obtain ⟨o, ho, _⟩ := t0.at_
    rw [q] at ho
    cases ho
  have mput : (s.put c').mt = some c' := by
    cases s with
    | frz d => cases m
    | own d => rfl
    | bor d => rfl
  refine ⟨⟨by rw [List.length_set]; exact R.len, fun j d hj => ?_, fun j s2 d hj m2 => ?_, fun j l s1 s2 d1 d2 b hj hl m1 m2 q1 q2 => ?_, fun j b hj => ?_, fun j d hj => ?_, fun b o q nb => ?_, fun b f => ?_, fun b q => sub b (R.f0 b q), trk,
    fun p hp => let ⟨x, y, w⟩ := R.pin p hp; ⟨sub _ x, K1.fz _ _ x y, w.keep K1⟩⟩,
    ⟨sub, fun b o q n => kp b o q fun e => n (e ▸ own), fun b f => (new b f).imp id .inl, fun b ⟨j, s2, d, hj, m2, q⟩ => ?_, bk⟩⟩
  · rcases set_get hj with ⟨e, e2, _⟩ | ⟨e, hj⟩
    · cases s with
      | frz d => cases m
      | own d => cases e2
      | bor d => cases e2
    · obtain ⟨v, x, y⟩ := R.frz j d hj
      exact ⟨v, x, y.keep K1⟩
  · rcases set_get hj with ⟨e, e2, _⟩ | ⟨e, hj⟩
    · subst e
      cases e2
      rw [mput] at m2
      cases m2
      exact ⟨a, hs, nf', t, z⟩
    · obtain ⟨b, x, y, w, u⟩ := R.mt j s2 d hj m2
      have ne : b ≠ a := fun q => e (R.sep j i _ _ _ _ a hj h m2 m (by rw [← q]; exact x) hs)
      refine ⟨b, x, fun f => ?_, w.keep K1 fun o q => kp b o q ne, u⟩
      refine (new b f).elim y fun q => ?_
      obtain ⟨o, ho, _⟩ := w.at_
      rw [q] at ho
      cases ho
  · have key : ∀ {j : Nat} {s1 : SV} {d1 : D}, (ρ.set i (some (s.put c')))[j]? = some (some s1) → s1.mt = some d1 → ∃ s0 d0, ρ[j]? = some (some s0) ∧ s0.mt = some d0 := fun {j s1 d1} hj m1 => by
      rcases set_get hj with ⟨e, e2, _⟩ | ⟨e, hj⟩
      · exact ⟨s, c, by rw [e]; exact h, m⟩
      · exact ⟨_, _, hj, m1⟩
    obtain ⟨_, _, x1, y1⟩ := key hj m1
    obtain ⟨_, _, x2, y2⟩ := key hl m2
    exact R.sep j l _ _ _ _ b x1 x2 y1 y2 q1 q2
  · obtain ⟨x, d, y⟩ := R.bor j b hj
    refine ⟨x, ?_⟩
    by_cases e : j = i
    · subst e
      rw [h] at y
      cases y
      exact ⟨c', get_set_eq (lt_of_get h)⟩
    · exact ⟨d, by rw [get_set_ne e]; exact y⟩
  · rcases set_get hj with ⟨e, e2, _⟩ | ⟨e, hj⟩
    · subst e
      cases s with
      | frz d => cases m
      | own d => cases e2
      | bor d' => exact R.obor _ d' h
    · exact R.obor j d hj
  · refine kp b o (R.ent b o q nb) fun e => ?_
    subst e
    rcases z with z | z
    · exact nb z
    · rw [q] at z
      cases z
  · rcases new b f with f | q
    · exact R.fnew b f
    · exact .inr (R.h0 q)
  · rcases set_get hj with ⟨e, e2, _⟩ | ⟨e, hj⟩
    · subst e
      exact ⟨_, s, c, h, m, q⟩
    · exact ⟨j, s2, d, hj, m2, q⟩
end

/-! ### methods that change their object -/
abbrev OpX := D → List D → (SV → D → Prop) → Prop
def rOX (K : PySem.W.Frag) (o : OpX) : V → List V → Hp → VK → Prop := fun x xs H Q => ∃ (F : Addr → Prop) (a : Addr) (c : D) (ds : List D) (P : SV → D → Prop), x = .ref a ∧ Top K F H a c ∧ ¬ F a ∧ RepL K F H xs ds ∧ o c ds P ∧
  ∀ s c', P s c' → ∀ u H', (∀ b u, H b = some u → b ≠ a → H' b = some u) → (∀ b, H' b = none → H b = none) → Top K F H' a c' → RepN K F H' H u s → Q u H'
def dMut (i : Nat) (o : OpX) (g : DA) : DE := fun ρ P => (∃ s l, ρ[i]? = some (some s) ∧ s.d = .lst l) ∧ daThen g (fun ds ρ1 P => ∃ s c, ρ1[i]? = some (some s) ∧ s.mt = some c ∧ o c ds fun r c' => P (.ok r) (ρ1.set i (some (s.put c')))) ρ P
section
variable {X : Cx} {C : Pr} {e a b : Expr} {es : List Expr} {f fa fb : DE} {pos apos cpos : Pos} {name : Str} {id : String} {i : Nat} {o : OpX} {g : DA}
theorem en_mut (hC : JC X C) {σ : L2.St} {H : Hp} {Q : VK} (h : lE C (dMut i o g) σ H Q) : tBM X.K "list" (rOX X.K o) (tVar i) (lA C g) σ H Q := by
  obtain ⟨ρ, F, P, R, ⟨⟨s0, l0, h0, hl0⟩, hf⟩, k1, k2⟩ := h
  obtain ⟨v, hv, r0⟩ := R.rp1 h0
  rw [hl0] at r0
  obtain ⟨a0, xs0, rfl, hx0, _⟩ := r0.lst
  refine ⟨_, hv, .inl ⟨rfl, xs0, .of hx0⟩, sA R hf k2 fun ds ρ1 vs H1 F1 x R1 rl ⟨s, c, hs, m, q⟩ => ?_⟩
  obtain ⟨a, e1, nf, t, z⟩ := R1.mt i s c hs m
  rw [hv] at e1
  cases e1
  rw [← hC.k]
  refine ⟨F1, _, c, ds, _, rfl, t, nf, rl, q, fun r c' p u H' kp bk t' rn => ?_⟩
  have trk : ∀ b, F1 b → ∃ o, H' b = some o := fun b f => by
    cases e : H' b with
    | none =>
      obtain ⟨o, ho⟩ := R1.trk b f
      rw [bk b e] at ho
      cases ho
    | some o => exact ⟨o, rfl⟩
  obtain ⟨R2, x2⟩ := R1.upd hs m hv (fun _ q => q) (fun _ q => .inl q) trk kp bk t'
  exact k1 r _ p u H' F1 (x.trans x2) R2 ((rn.reps R1.trk).bk x.bk)
theorem je_mut (hC : JC X C) (slot : Slot "list" name id) (hty : typeOf (.builtin id) = pure (.type "method_descriptor")) (ho : MtR X id (rOX X.K o)) (hv : PE X a (tVar i)) (ha : PA X (e :: es) (lA C g))
    (hbase : attributeBase a name X.env (eval a X.env) = eval a X.env := by rfl)
    (hfew : ((backTo cpos (starEach (e :: es) X.env)).all (fun x => !x.1) && (backToKw cpos (keywordEach [] X.env)).all (fun x => x.1.isSome)
      && decide ((e :: es).length + ([] : List Keyword).length + (if ([] : List Keyword).isEmpty then 0 else 1) < 30)) = true := by rfl)
    (hline : (apos.endLine == cpos.line) = true := by rfl) (hs : starEach (e :: es) X.env = (false, eval e X.env) :: starEach es X.env := by rfl) (hplain : (backTo cpos (starEach es X.env)).any (·.1) = false := by rfl) :
    PE X (.Call (.Attribute a name apos) (e :: es) [] cpos) (lE C (dMut i o g)) :=
  PE.imp (pe_bm PySem.F.plainAttrs_list slot hty ho hv ha hbase hfew hline hs hplain) fun _ _ _ h => en_mut hC h
theorem je_mut0 (hC : JC X C) (slot : Slot "list" name id) (hty : typeOf (.builtin id) = pure (.type "method_descriptor")) (ho : MtR X id (rOX X.K o)) (hv : PE X a (tVar i))
    (hbase : attributeBase a name X.env (eval a X.env) = eval a X.env := by rfl) (hline : (apos.endLine == cpos.line) = true := by rfl) :
    PE X (.Call (.Attribute a name apos) [] [] cpos) (lE C (dMut i o daNil)) :=
  PE.imp (pe_bm0 PySem.F.plainAttrs_list slot hty ho hv hbase hline) fun σ H Q h => by
    obtain ⟨v, hv, ty, ρ, F, P, R, hf, k1, k2⟩ := en_mut hC h
    exact ⟨v, hv, ty, k1 _ _ hf [] H F Ext.refl R .nil⟩
end
/-! the methods of lists -/
def xAppend : OpX := fun c ds P => match c, ds with
  | .lst l, [d] => l.length < sizeLine ∧ P (.frz .non) (.lst (l ++ [d]))
  | _, _ => False
def xPop : OpX := fun c ds P => match c, ds with
  | .lst l, [] => ∃ d, l[l.length - 1]? = some d ∧ P (.frz d) (.lst l.dropLast)
  | .lst l, [.int i] => ∃ k d, (-(2 ^ 63) ≤ i ∧ i < 2 ^ 63) ∧ seqIndex? i l.length = some k ∧ l[k]? = some d ∧ P (.frz d) (.lst (l.eraseIdx k))
  | _, _ => False
def xInsert : OpX := fun c ds P => match c, ds with
  | .lst l, [.int i, d] => (l.length < sizeLine ∧ 0 ≤ i ∧ i < 2 ^ 63) ∧ P (.frz .non) (.lst (l.take i.toNat ++ [d] ++ l.drop i.toNat))
  | _, _ => False
def xClear : OpX := fun c ds P => match c, ds with
  | .lst _, [] => P (.frz .non) (.lst [])
  | _, _ => False
section
variable {K : PySem.W.Frag} {F : Addr → Prop} {H : Hp}
theorem upd_kp {a : Addr} {o : HO} : ∀ b u, H b = some u → b ≠ a → (upd H a o) b = some u := fun b u q n => by rw [upd_ne n]; exact q
theorem upd_bk {a : Addr} {o : HO} : ∀ b, (upd H a o) b = none → H b = none := fun b q => by
  by_cases e : b = a
  · subst e
    rw [upd_same] at q
    cases q
  · rw [upd_ne e] at q
    exact q
theorem keeps_upd {a : Addr} {o u : HO} (nf : ¬ F a) (h : H a = some u) (nt : ∀ xs, u ≠ .tup xs) (nz : ∀ ob xs, u ≠ .frz ob xs) : Keeps K F H F (upd H a o) :=
  ⟨fun _ q => q, fun b v f q => by rw [upd_ne (show b ≠ a from fun e => nf (by rw [← e]; exact f))]; exact q, fun b v q t => by
    rw [upd_ne]
    · exact q
    · intro e
      subst e
      rw [h] at q
      cases q
      rcases t with ⟨xs, e⟩ | ⟨ob, xs, e⟩
      · exact nt _ e
      · exact nz _ _ e⟩
theorem RepL.dropLast : ∀ {xs : List V} {ds : List D}, RepL K F H xs ds → RepL K F H xs.dropLast ds.dropLast
  | _, _, .nil => .nil
  | _, _, .cons r .nil => .nil
  | _, _, .cons r (.cons q t) => .cons r (RepL.dropLast (.cons q t))
end
theorem m_append {X : Cx} : MtR X "list.append" (rOX X.K xAppend) := by
  refine mimp (show MtR X "list.append" rAppend from mt_append) ?_
  rintro x xs H Q ⟨F, a, c, ds, P, rfl, t, nf, rl, h, k⟩
  unfold xAppend at h
  split at h
  · cases t with
    | lst hx r =>
      cases rl with
      | cons rd rn =>
        cases rn
        have K1 : ∀ zs, Keeps X.K F H F (upd H a (.lst zs)) := fun zs => keeps_upd nf hx (fun _ e => nomatch e) (fun _ _ e => nomatch e)
        exact ⟨a, _, _, rfl, rfl, hx, by rw [r.length]; exact h.1, k _ _ h.2 _ _ upd_kp upd_bk (.lst upd_same ((r.keep (K1 _)).append (.cons (rd.keep (K1 _)) .nil))) .non⟩
  · exact h.elim
theorem m_clear {X : Cx} : MtR X "list.clear" (rOX X.K xClear) := by
  refine mimp (show MtR X "list.clear" rClear from mt_clear) ?_
  rintro x xs H Q ⟨F, a, c, ds, P, rfl, t, nf, rl, h, k⟩
  unfold xClear at h
  split at h
  · cases t with
    | lst hx r =>
      cases rl
      exact ⟨a, _, rfl, rfl, hx, k _ _ h _ _ upd_kp upd_bk (.lst upd_same .nil) .non⟩
  · exact h.elim
theorem m_insert {X : Cx} : MtR X "list.insert" (rOX X.K xInsert) := by
  refine mimp mt_insert ?_
  rintro x xs H Q ⟨F, a, c, ds, P, rfl, t, nf, rl, h, k⟩
  unfold xInsert at h
  split at h
  · cases t with
    | lst hx r =>
      cases rl with
      | cons ri rn =>
        cases ri
        cases rn with
        | cons rd rn =>
          cases rn
          have K1 : ∀ zs, Keeps X.K F H F (upd H a (.lst zs)) := fun zs => keeps_upd nf hx (fun _ e => nomatch e) (fun _ _ e => nomatch e)
          exact ⟨a, _, _, _, rfl, rfl, hx, by rw [r.length]; exact h.1.1, h.1.2.1, h.1.2.2, k _ _ h.2 _ _ upd_kp upd_bk (.lst upd_same ((((r.keep (K1 _)).take _).append (.cons (rd.keep (K1 _)) .nil)).append ((r.keep (K1 _)).drop _))) .non⟩
  · exact h.elim
theorem MtR.or' {X : Cx} {id : String} {r r' : V → List V → Hp → VK → Prop} (h : MtR X id r) (h' : MtR X id r') : MtR X id (fun x xs H Q => r x xs H Q ∨ r' x xs H Q) := L2.MtR.or h h'
theorem m_pop {X : Cx} : MtR X "list.pop" (rOX X.K xPop) := by
  refine mimp (MtR.or' (show MtR X "list.pop" rPop from mt_pop) (show MtR X "list.pop" rPopAt from mt_popAt)) ?_
  rintro x xs H Q ⟨F, a, c, ds, P, rfl, t, nf, rl, h, k⟩
  unfold xPop at h
  split at h
  · obtain ⟨d, hd, q⟩ := h
    cases t with
    | lst hx r =>
      cases rl
      obtain ⟨v, hv, rv⟩ := r.get hd
      have K1 : ∀ zs, Keeps X.K F H F (upd H a (.lst zs)) := fun zs => keeps_upd nf hx (fun _ e => nomatch e) (fun _ _ e => nomatch e)
      exact .inl ⟨a, _, v, rfl, rfl, hx, by rw [r.length]; exact hv, k _ _ q _ _ upd_kp upd_bk (.lst upd_same ((r.keep (K1 _)).dropLast)) (rv.keep (K1 _))⟩
  · obtain ⟨j, d, hb, hj, hd, q⟩ := h
    cases t with
    | lst hx r =>
      cases rl with
      | cons ri rn =>
        cases ri
        cases rn
        obtain ⟨v, hv, rv⟩ := r.get hd
        have K1 : ∀ zs, Keeps X.K F H F (upd H a (.lst zs)) := fun zs => keeps_upd nf hx (fun _ e => nomatch e) (fun _ _ e => nomatch e)
        exact .inr ⟨a, _, _, j, v, rfl, rfl, hx, hb.1, hb.2, by rw [r.length]; exact hj, hv, k _ _ q _ _ upd_kp upd_bk (.lst upd_same ((r.keep (K1 _)).erase _)) (rv.keep (K1 _))⟩
  · exact h.elim

/-! ### own defs -/
/-- a def's promise over data: the borrowed objects' contents, the other arguments -/
abbrev DSp := List D → List D → (O → List D → Prop) → Prop
def TopAll (K : PySem.W.Frag) (F : Addr → Prop) (H : Hp) (as : List Addr) (cs : List D) : Prop := as.length = cs.length ∧ ∀ (i : Nat) (a : Addr) (c : D), as[i]? = some a → cs[i]? = some c → ¬ F a ∧ Top K F H a c
/-- a call's change -/
structure Fx (as : List Addr) (F : Addr → Prop) (H : Hp) (F' : Addr → Prop) (H' : Hp) : Prop where
  sub : ∀ a, F a → F' a
  keep : ∀ a o, H a = some o → a ∉ as → H' a = some o
  new : ∀ a, F' a → F a ∨ H a = none
  trk : ∀ a, F' a → ∃ o, H' a = some o
  bk : ∀ a, H' a = none → H a = none
def lSp (K : PySem.W.Frag) (sp : DSp) : Sp := fun vs H Q E => ∃ (as : List Addr) (ws : List V) (cs ds : List D) (F : Addr → Prop) (P : O → List D → Prop),
  vs = as.map V.ref ++ ws ∧ RepL K F H ws ds ∧ TopAll K F H as cs ∧ as.Nodup ∧ (∀ a, F a → ∃ o, H a = some o) ∧ sp cs ds P ∧
  (∀ r cs', P (.ok r) cs' → ∀ v H' F', Fx as F H F' H' → TopAll K F' H' as cs' → RepS K F' H' H v r → Q v H') ∧
  (∀ c x cs', P (.ex c x) cs' → ∀ cls dd H' F', Fx as F H F' H' → TopAll K F' H' as cs' → XOk K F' H' H cls dd c x → E cls (some dd) H')
section
variable {C : Pr} {F F' : Addr → Prop} {H H' : Hp} {σ : L2.St} {ρ : Env}
theorem Rel.fx (R : Rel C F H σ ρ) (x : Fx [] F H F' H') : Rel C F' H' σ ρ ∧ Ext σ ρ ρ F H F' H' := by
  have kp : ∀ b o, H b = some o → H' b = some o := fun b o q => x.keep b o q (by simp)
  have K1 : Keeps C.K F H F' H' := ⟨x.sub, fun b o _ q => kp b o q, fun b o q _ => kp b o q⟩
  refine ⟨⟨R.len, fun i d e => let ⟨v, p, q⟩ := R.frz i d e; ⟨v, p, q.keep K1⟩, fun i s d e m => ?_, R.sep, R.bor, R.obor, fun a o e n => kp a o (R.ent a o e n), fun b f => (x.new b f).elim (R.fnew b) fun q => .inr (R.h0 q), fun b q => x.sub b (R.f0 b q), x.trk,
    fun p hp => let ⟨a, b, c⟩ := R.pin p hp; ⟨x.sub _ a, kp _ _ b, c.keep K1⟩⟩, ⟨x.sub, fun b o q _ => kp b o q, fun b f => (x.new b f).imp id .inl, fun _ q => q, x.bk⟩⟩
  obtain ⟨a, b, c, t, z⟩ := R.mt i s d e m
  refine ⟨a, b, fun f => ?_, t.keep K1 fun o q => kp a o q, z⟩
  refine (x.new a f).elim c fun q => ?_
  obtain ⟨o, ho, _⟩ := t.at_
  rw [q] at ho
  cases ho
end
def dFn (sp : DSp) (g : DA) : DE := daThen g fun ds ρ P => sp [] ds fun o _ => P o ρ
def dFnB (sp : DSp) (i : Nat) (g : DA) : DE := fun ρ P => (∃ s, ρ[i]? = some (some s)) ∧
  daThen g (fun ds ρ1 P => ∃ s c, ρ1[i]? = some (some s) ∧ s.mt = some c ∧ sp [c] ds fun o cs' => ∀ c', cs' = [c'] → P o (ρ1.set i (some (s.put c')))) ρ P
section
variable {X : Cx} {C : Pr} {e a b : Expr} {es : List Expr} {f fa fb : DE} {pos p : Pos} {x : Str} {i k : Nat} {g : DA} {sp : DSp} {fA : Addr} {fd : FuncData} {ps : List Str}
theorem en_fn (hC : JC X C) {σ : L2.St} {H : Hp} {Q : VK} (h : lE C (dFn sp g) σ H Q) : tCallS (lSp X.K sp) (WE C.W) (lA C g) σ H Q := by
  obtain ⟨ρ, F, P, R, hf, k1, k2⟩ := h
  refine sA R hf k2 fun ds ρ1 vs H1 F1 x R1 rl q => ?_
  rw [← hC.k]
  refine ⟨[], vs, [], ds, F1, _, rfl, rl, ⟨rfl, fun i a c h => by simp at h⟩, List.nodup_nil, R1.trk, q, fun r cs' p v H' F' fx _ rs => ?_, fun c y cs' p cls dd H' F' fx _ xo => ?_⟩
  · obtain ⟨R2, x2⟩ := R1.fx fx
    exact k1 r ρ1 p v H' F' (x.trans x2) R2 (rs.bk x.bk)
  · obtain ⟨R2, x2⟩ := R1.fx fx
    exact k2 c y ρ1 p cls dd H' F' (x.trans x2) R2 (xo.bk x.bk)
theorem je_fn (hC : JC X C) (Fn : FnOk X.prog X.w X.K X.mg X.base (L2.CX X.prog X.w) k fA fd ps (lSp X.K sp)) (hr : Room k X.A) (hg : Gl X x) (hm : X.mg x = some (.ref fA)) (hk : PySem.W.keepIn X.K (.ref fA) = true) (hb : Binds X.K fd ps [])
    (ha : PA X (e :: es) (lA C g)) (hdb : (x == ("__debug__" : Str)) = false := by decide) (he : starEach (e :: es) X.env = (false, eval e X.env) :: starEach es X.env := by rfl) (hpl : (backTo pos (starEach es X.env)).any (·.1) = false := by rfl) :
    PE X (.Call (.Name x p) (e :: es) [] pos) (lE C (dFn sp g)) :=
  PE.imp (pe_callS Fn hr hg hm hk hb (fun σ => passAt hC.tk σ) ha hdb he hpl) fun _ _ _ h => en_fn hC h
theorem en_fnB (hC : JC X C) {σ : L2.St} {H : Hp} {Q : VK} (h : lE C (dFnB sp i g) σ H Q) : tCallS (lSp X.K sp) (WE C.W) (tCons (tVar i) (lA C g)) σ H Q := by
  obtain ⟨ρ, F, P, R, ⟨⟨s0, h0⟩, hf⟩, k1, k2⟩ := h
  obtain ⟨v, hv, _⟩ := R.rp1 h0
  refine ⟨v, hv, sA R hf k2 fun ds ρ1 vs H1 F1 x R1 rl ⟨s, c, hs, m, q⟩ => ?_⟩
  obtain ⟨a, e1, nf, t, z⟩ := R1.mt i s c hs m
  rw [hv] at e1
  cases e1
  rw [← hC.k]
  have go : ∀ {H' : Hp} {F' : Addr → Prop} {cs' : List D}, Fx [a] F1 H1 F' H' → TopAll C.K F' H' [a] cs' → ∃ c', cs' = [c'] ∧ Rel C F' H' σ (ρ1.set i (some (s.put c'))) ∧ Ext σ ρ1 (ρ1.set i (some (s.put c'))) F1 H1 F' H' := fun {H' F' cs'} fx ta => by
    match cs', ta with
    | [c'], ta =>
      obtain ⟨_, t'⟩ := ta.2 0 a c' rfl rfl
      obtain ⟨R2, x2⟩ := R1.upd hs m hv fx.sub fx.new fx.trk (fun b o q n => fx.keep b o q (by simpa using n)) fx.bk t'
      exact ⟨c', rfl, R2, x2⟩
    | [], ta => exact absurd ta.1 (by simp)
    | _ :: _ :: _, ta => exact absurd ta.1 (by simp)
  refine ⟨[a], vs, [c], ds, F1, _, rfl, rl, ⟨rfl, fun j b d hb hd => ?_⟩, by simp, R1.trk, q, fun r cs' p v H' F' fx ta rs => ?_, fun c0 y cs' p cls dd H' F' fx ta xo => ?_⟩
  · match j, hb, hd with
    | 0, hb, hd =>
      cases hb
      cases hd
      exact ⟨nf, t⟩
    | j + 1, hb, hd => simp at hb
  · obtain ⟨c', ec, R2, x2⟩ := go fx ta
    exact k1 r _ (p c' ec) v H' F' (x.trans x2) R2 (rs.bk x.bk)
  · obtain ⟨c', ec, R2, x2⟩ := go fx ta
    exact k2 c0 y _ (p c' ec) cls dd H' F' (x.trans x2) R2 (xo.bk x.bk)
theorem je_fnB (hC : JC X C) (Fn : FnOk X.prog X.w X.K X.mg X.base (L2.CX X.prog X.w) k fA fd ps (lSp X.K sp)) (hr : Room k X.A) (hg : Gl X x) (hm : X.mg x = some (.ref fA)) (hk : PySem.W.keepIn X.K (.ref fA) = true) (hb : Binds X.K fd ps [])
    (hv : PE X e (tVar i)) (ha : PA X es (lA C g)) (hdb : (x == ("__debug__" : Str)) = false := by decide) (he : starEach (e :: es) X.env = (false, eval e X.env) :: starEach es X.env := by rfl) (hpl : (backTo pos (starEach es X.env)).any (·.1) = false := by rfl) :
    PE X (.Call (.Name x p) (e :: es) [] pos) (lE C (dFnB sp i g)) :=
  PE.imp (pe_callS Fn hr hg hm hk hb (fun σ => passAt hC.tk σ) (pa_cons hv ha he) hdb he hpl) fun _ _ _ h => en_fnB hC h
end
end Ow

set_option Elab.async false
set_option linter.all false
set_option maxRecDepth 100000
set_option maxHeartbeats 2000000
namespace Ow
open PySem PySem.Spec L2
set_option autoImplicit false

/-! ### statements -/
inductive SO where
  | nx | ret (r : SV) | brk | cnt | ex (c : Str) (x : D)
abbrev DS := Env → (SO → Env → Prop) → Prop
structure Ok6 (C : Pr) (P : SO → Env → Prop) (Dn : Ends) (F : Addr → Prop) (H : Hp) : Prop where
  nx : ∀ ρ', P .nx ρ' → ∀ σ' H' F', Keeps C.K F H F' H' → Rel C F' H' σ' ρ' → Dn.nx σ' H'
  brk : ∀ ρ', P .brk ρ' → ∀ σ' H' F', Keeps C.K F H F' H' → Rel C F' H' σ' ρ' → Dn.bk σ' H'
  cnt : ∀ ρ', P .cnt ρ' → ∀ σ' H' F', Keeps C.K F H F' H' → Rel C F' H' σ' ρ' → Dn.ct σ' H'
  ret : ∀ r ρ', P (.ret r) ρ' → ∀ v σ' H' F', Keeps C.K F H F' H' → Rel C F' H' σ' ρ' → RepS C.K F' H' C.H0 v r → Dn.rt v H'
  ex : ∀ c x ρ', P (.ex c x) ρ' → ∀ cls dd σ' H' F', Keeps C.K F H F' H' → Rel C F' H' σ' ρ' → XOk C.K F' H' C.H0 cls dd c x → C.W cls (some dd) σ' H'
def lS (C : Pr) (f : DS) : TS := fun Dn σ H => ∃ (ρ : Env) (F : Addr → Prop) (P : SO → Env → Prop), Rel C F H σ ρ ∧ f ρ P ∧ Ok6 C P Dn F H
section
variable {C : Pr} {F F' F1 : Addr → Prop} {H H' H1 Hs : Hp} {σ : L2.St} {ρ ρ' : Env} {P : SO → Env → Prop} {Dn : Ends}
theorem Ok6.go (k : Ok6 C P Dn F H) (x : Keeps C.K F H F' H') : Ok6 C P Dn F' H' :=
  ⟨fun ρ' p σ' H2 F2 y => k.nx ρ' p σ' H2 F2 (x.trans y), fun ρ' p σ' H2 F2 y => k.brk ρ' p σ' H2 F2 (x.trans y), fun ρ' p σ' H2 F2 y => k.cnt ρ' p σ' H2 F2 (x.trans y),
    fun r ρ' p v σ' H2 F2 y => k.ret r ρ' p v σ' H2 F2 (x.trans y), fun c z ρ' p cls dd σ' H2 F2 y => k.ex c z ρ' p cls dd σ' H2 F2 (x.trans y)⟩
def nbor (o : Option (Option SV)) : Prop := match o with
  | some (some (.bor _)) => False
  | none => False
  | _ => True
/-- a slot is given a value -/
theorem Rel.put (R : Rel C F H σ ρ) {i : Nat} {v : V} {r : SV} (hn : nbor ρ[i]?) (rs : RepS C.K F H Hs v r) (h0 : ∀ a, Hs a = none → C.H0 a = none) (no : ∀ a, Hs a = none → ¬ Own σ ρ a) : Rel C F H (σ.set i (some v)) (ρ.set i (some r)) := by
  have hl : i < ρ.length := by
    cases e : ρ[i]? with
    | none => rw [e] at hn; exact hn.elim
    | some x => exact lt_of_get e
  have hls : i < σ.length := by rw [R.len]; exact hl
  refine ⟨by rw [List.length_set, List.length_set]; exact R.len, fun j d hj => ?_, fun j s d hj m => ?_, fun j l s t d e b hj hl' m1 m2 q1 q2 => ?_, fun j b hj => ?_, fun j d hj => ?_, R.ent, R.fnew, R.f0, R.trk, R.pin⟩
  · rcases set_get hj with ⟨e, e2, _⟩ | ⟨e, hj⟩
    · subst e
      cases e2
      exact ⟨v, get_set_eq hls, rs⟩
    · obtain ⟨w, x, y⟩ := R.frz j d hj
      exact ⟨w, by rw [get_set_ne e]; exact x, y⟩
  · rcases set_get hj with ⟨e, e2, _⟩ | ⟨e, hj⟩
    · subst e
      cases e2
      cases r with
      | frz d' => cases m
      | own d' =>
        cases m
        obtain ⟨a, ev, nf, t, n⟩ := rs
        exact ⟨a, by rw [get_set_eq hls, ev], nf, t, .inr (h0 a n)⟩
      | bor d' => exact rs.elim
    · obtain ⟨a, x, y, w, z⟩ := R.mt j s d hj m
      exact ⟨a, by rw [get_set_ne e]; exact x, y, w, z⟩
  · have key : ∀ {j l : Nat} {s t : SV} {d e : D}, (ρ.set i (some r))[j]? = some (some s) → (ρ.set i (some r))[l]? = some (some t) → s.mt = some d → t.mt = some e → j = i → l ≠ i → (σ.set i (some v))[j]? = some (some (.ref b)) → (σ.set i (some v))[l]? = some (some (.ref b)) → False := by
      intro j0 l0 s0 t0 d0 e0 hj0 hl0 m01 m02 ej0 el0 q01 q02
      rw [ej0, get_set_eq hl] at hj0
      rw [ej0, get_set_eq hls] at q01
      rw [get_set_ne el0] at hl0
      rw [get_set_ne el0] at q02
      cases hj0
      cases r with
      | frz d' => cases m01
      | own d' =>
        obtain ⟨a, ev, nf, _, n⟩ := rs
        rw [ev] at q01
        cases q01
        exact no _ n ⟨l0, t0, e0, hl0, m02, q02⟩
      | bor d' => exact rs.elim
    by_cases ej : j = i
    · by_cases el : l = i
      · rw [ej, el]
      · exact (key hj hl' m1 m2 ej el q1 q2).elim
    · by_cases el : l = i
      · exact (key hl' hj m2 m1 el ej q2 q1).elim
      · rw [get_set_ne ej] at hj
        rw [get_set_ne ej] at q1
        rw [get_set_ne el] at hl'
        rw [get_set_ne el] at q2
        exact R.sep j l s t d e b hj hl' m1 m2 q1 q2
  · obtain ⟨x, d, y⟩ := R.bor j b hj
    have ne : j ≠ i := fun q => by
      subst q
      rw [y] at hn
      exact hn
    exact ⟨by rw [get_set_ne ne]; exact x, d, by rw [get_set_ne ne]; exact y⟩
  · rcases set_get hj with ⟨e, e2, _⟩ | ⟨e, hj⟩
    · subst e
      cases e2
      exact rs.elim
    · exact R.obor j d hj
end
section
variable {X : Cx} {C : Pr} {e a b : Expr} {es : List Expr} {st : Stmt} {sts rest : List Stmt} {f fa fb ft : DE} {g h : DS} {pos pos' : Pos} {i : Nat}
theorem PS.imp {t t' : TS} (h : PS X st t) (k : ∀ Dn σ H, t' Dn σ H → t Dn σ H) : PS X st t' := ⟨fun pins s σ H Dn I q => h.run pins s σ H Dn I (k _ _ _ q)⟩
theorem PSs.imp {t t' : TS} (h : PSs X sts t) (k : ∀ Dn σ H, t' Dn σ H → t Dn σ H) : PSs X sts t' := ⟨fun pins s σ H Dn I q => h.run pins s σ H Dn I (k _ _ _ q)⟩
/-- an expression at the head of a statement -/
def dsThen (f : DE) (k : SV → Env → (SO → Env → Prop) → Prop) : DS := fun ρ P => f ρ fun o ρ1 => match o with
  | .ok r => k r ρ1 P
  | .ex c x => P (.ex c x) ρ1
theorem sS {k : SV → Env → (SO → Env → Prop) → Prop} {σ : L2.St} {H : Hp} {T : VK} {ρ : Env} {F : Addr → Prop} {P : SO → Env → Prop} {Dn : Ends} (R : Rel C F H σ ρ) (q : dsThen f k ρ P) (k6 : Ok6 C P Dn F H)
    (i : ∀ (r : SV) (ρ1 : Env) (v : V) (H1 : Hp) (F1 : Addr → Prop), Ext σ ρ ρ1 F H F1 H1 → Rel C F1 H1 σ ρ1 → RepS C.K F1 H1 H v r → k r ρ1 P → T v H1) : lE C f σ H T :=
  ⟨ρ, F, _, R, q, fun r ρ1 p v H1 F1 x R1 rs => i r ρ1 v H1 F1 x R1 rs p, fun c y ρ1 p cls dd H1 F1 x R1 xo => k6.ex c y ρ1 p cls dd σ H1 F1 (x.keeps R) R1 (xo.bk fun a z => R.h0 z)⟩
def dSet (i : Nat) (f : DE) : DS := dsThen f fun r ρ P => nbor ρ[i]? ∧ P .nx (ρ.set i (some r))
theorem js_set {x : Str} (hN : X.N.Nodup) (hi : X.N[i]? = some x) (hx : Loc X.env.scope x) (he : PE X e (lE C f)) (hs : swapsWith e (some (.Name x pos')) pos.line X.env = pure false := by rfl)
    (hf : X.fn x = true ∨ X.env.scope.names.lookup x = some .local := by first | exact .inl rfl | exact .inr rfl | assumption) : PS X (.Assign [.Name x pos'] e pos) (lS C (dSet i f)) :=
  PS.imp (ps_set hN hi hx he hs hf) fun Dn σ H ⟨ρ, F, P, R, hf, k6⟩ => by
    refine sS R hf k6 fun r ρ1 v H1 F1 x R1 rs ⟨hn, q⟩ => ?_
    exact k6.nx _ q _ H1 F1 (x.keeps R) (R1.put hn rs (fun a z => R.h0 z) fun a z => R.noown x z)
def dDrop (f : DE) : DS := dsThen f fun _ ρ P => P .nx ρ
theorem js_expr (he : PE X e (lE C f)) (hs : swapsWith e none pos.line X.env = pure false := by rfl) : PS X (.Expr e pos) (lS C (dDrop f)) :=
  PS.imp (ps_expr he hs) fun Dn σ H ⟨ρ, F, P, R, hf, k6⟩ => by
    refine sS R hf k6 fun r ρ1 v H1 F1 x R1 rs q => ?_
    exact k6.nx _ q _ H1 F1 (x.keeps R) R1
def dRet (f : DE) : DS := dsThen f fun r ρ P => P (.ret r) ρ
theorem RepS.h0 {F : Addr → Prop} {Hs : Hp} {σ : L2.St} {ρ : Env} {F1 : Addr → Prop} {H1 : Hp} {v : V} {r : SV} (R : Rel C F Hs σ ρ) (h : RepS C.K F1 H1 Hs v r) : RepS C.K F1 H1 C.H0 v r := h.bk fun _ z => R.h0 z
theorem js_ret (he : PE X e (lE C f)) : PS X (.Return (some e) pos) (lS C (dRet f)) :=
  PS.imp (ps_ret he) fun Dn σ H ⟨ρ, F, P, R, hf, k6⟩ => by
    refine sS R hf k6 fun r ρ1 v H1 F1 x R1 rs q => ?_
    exact k6.ret _ _ q v σ H1 F1 (x.keeps R) R1 (rs.h0 R)
/-- return x: an owned object is handed on as such -/
def dRetV (i : Nat) : DS := fun ρ P => match ρ[i]? with
  | some (some (.frz d)) => P (.ret (.frz d)) ρ
  | some (some (.own d)) => P (.ret (.own d)) (ρ.set i none)
  | _ => False
theorem Rel.forget {F : Addr → Prop} {H : Hp} {σ : L2.St} {ρ : Env} (R : Rel C F H σ ρ) {i : Nat} (hn : nbor ρ[i]?) : Rel C F H σ (ρ.set i none) := by
  refine ⟨by rw [List.length_set]; exact R.len, fun j d hj => ?_, fun j s d hj m => ?_, fun j l s t d e b hj hl' m1 m2 q1 q2 => ?_, fun j b hj => ?_, fun j d hj => ?_, R.ent, R.fnew, R.f0, R.trk, R.pin⟩
  · rcases set_get hj with ⟨e, e2, _⟩ | ⟨e, hj⟩
    · cases e2
    · exact R.frz j d hj
  · rcases set_get hj with ⟨e, e2, _⟩ | ⟨e, hj⟩
    · cases e2
    · exact R.mt j s d hj m
  · rcases set_get hj with ⟨e, e2, _⟩ | ⟨e, hj⟩
    · cases e2
    · rcases set_get hl' with ⟨e, e2, _⟩ | ⟨e, hl'⟩
      · cases e2
      · exact R.sep j l s t d _ b hj hl' m1 m2 q1 q2
  · obtain ⟨x, d, y⟩ := R.bor j b hj
    have ne : j ≠ i := fun q => by
      subst q
      rw [y] at hn
      exact hn
    exact ⟨x, d, by rw [get_set_ne ne]; exact y⟩
  · rcases set_get hj with ⟨e, e2, _⟩ | ⟨e, hj⟩
    · cases e2
    · exact R.obor j d hj
theorem js_retv (he : PE X e (tVar i)) : PS X (.Return (some e) pos) (lS C (dRetV i)) :=
  PS.imp (ps_ret he) fun Dn σ H ⟨ρ, F, P, R, hf, k6⟩ => by
    unfold dRetV at hf
    split at hf
    · rename_i d e1
      obtain ⟨v, h1, h2⟩ := R.frz i d e1
      exact ⟨v, h1, k6.ret _ _ hf v σ H F .refl R h2⟩
    · rename_i d e1
      obtain ⟨a, h1, nf, t, z⟩ := R.mt i _ d e1 rfl
      have hnb : a ∉ C.bs := fun hb => by
        obtain ⟨j, hj⟩ := List.mem_iff_getElem?.mp hb
        obtain ⟨g1, d', g2⟩ := R.bor j a hj
        have e : i = j := R.sep i j _ _ _ _ a e1 g2 rfl rfl h1 g1
        subst e
        rw [e1] at g2
        cases g2
      exact ⟨_, h1, k6.ret _ _ hf _ σ H F .refl (R.forget (by rw [e1]; exact True.intro)) ⟨a, rfl, nf, t, z.resolve_left hnb⟩⟩
    · exact hf.elim
def dPass : DS := fun ρ P => P .nx ρ
theorem js_nil : PSs X [] (lS C dPass) := PSs.imp pss_nil fun Dn σ H ⟨ρ, F, P, R, hf, k6⟩ => k6.nx _ hf σ H F .refl R
theorem js_pass : PS X (.Pass pos) (lS C dPass) := PS.imp ps_pass fun Dn σ H ⟨ρ, F, P, R, hf, k6⟩ => k6.nx _ hf σ H F .refl R
theorem js_brk : PS X (.Break pos) (lS C fun ρ P => P .brk ρ) := PS.imp ps_break fun Dn σ H ⟨ρ, F, P, R, hf, k6⟩ => k6.brk _ hf σ H F .refl R
theorem js_cnt : PS X (.Continue pos) (lS C fun ρ P => P .cnt ρ) := PS.imp ps_continue fun Dn σ H ⟨ρ, F, P, R, hf, k6⟩ => k6.cnt _ hf σ H F .refl R
def dNever : DS := fun _ _ => False
theorem js_never : PSs X sts (lS C dNever) := PSs.imp pss_never fun Dn σ H ⟨ρ, F, P, R, hf, k6⟩ => hf
theorem js_never1 : PS X st (lS C dNever) := PS.imp ps_never fun Dn σ H ⟨ρ, F, P, R, hf, k6⟩ => hf
def dSeq (g h : DS) : DS := fun ρ P => g ρ fun so ρ1 => match so with
  | .nx => h ρ1 P
  | .ret r => P (.ret r) ρ1
  | .brk => P .brk ρ1
  | .cnt => P .cnt ρ1
  | .ex c x => P (.ex c x) ρ1
theorem js_cons (h1 : PS X st (lS C g)) (h2 : PSs X rest (lS C h)) : PSs X (st :: rest) (lS C (dSeq g h)) :=
  PSs.imp (pss_cons h1 h2) fun Dn σ H ⟨ρ, F, P, R, hf, k6⟩ =>
    ⟨ρ, F, _, R, hf, ⟨fun ρ' p σ' H' F' x R' => ⟨ρ', F', P, R', p, k6.go x⟩, fun ρ' p => k6.brk ρ' p, fun ρ' p => k6.cnt ρ' p, fun r ρ' p => k6.ret r ρ' p, fun c x ρ' p => k6.ex c x ρ' p⟩⟩
theorem js_one (h1 : PS X st (lS C g)) : PSs X [st] (lS C g) := pss_one h1
def dIf (t : DE) (g h : DS) : DS := dsThen t fun r ρ P => onB r (g ρ P) (h ρ P)
theorem js_if {sa sb : List Stmt} (hc : PT X e (lT C ft)) (ha : PSs X sa (lS C g)) (hb : PSs X sb (lS C h)) : PS X (.If e sa sb pos) (lS C (dIf ft g h)) :=
  PS.imp (ps_if hc ha hb) fun Dn σ H ⟨ρ, F, P, R, hf, k6⟩ => by
    refine ⟨ρ, F, _, R, hf, fun r ρ1 p => ?_, fun c y ρ1 p cls dd H1 F1 x R1 xo => k6.ex c y ρ1 p cls dd σ H1 F1 (x.keeps R) R1 (xo.bk fun a z => R.h0 z)⟩
    obtain ⟨b, e⟩ := of_bl p
    subst e
    refine ⟨b, rfl, fun H1 F1 x R1 => ?_⟩
    cases b with
    | true => exact ⟨ρ1, F1, P, R1, p, k6.go (x.keeps R)⟩
    | false => exact ⟨ρ1, F1, P, R1, p, k6.go (x.keeps R)⟩

/-! ### targets -/
theorem own_putF {σ : L2.St} {ρ : Env} {i : Nat} {v : V} {d : D} : ∀ a, Own (σ.set i (some v)) (ρ.set i (some (.frz d))) a → Own σ ρ a := fun a ⟨j, s, e, h1, h2, h3⟩ => by
  rcases set_get h1 with ⟨_, e2, _⟩ | ⟨ne, h1⟩
  · cases e2
    cases h2
  · rw [get_set_ne ne] at h3
    exact ⟨j, s, e, h1, h2, h3⟩
abbrev DG := D → Env → (Env → Prop) → Prop
abbrev DGs := List D → Env → (Env → Prop) → Prop
/-- ts: the slots that are stored -/
def lG (C : Pr) (ts : List Nat) (g : DG) : TG := fun v σ H Q => ∃ (ρ : Env) (F : Addr → Prop) (d : D) (P : Env → Prop), Rel C F H σ ρ ∧ Rep C.K F H v d ∧ g d ρ P ∧
  ∀ ρ', P ρ' → ∀ σ', σ'.length = σ.length → (∀ j, j ∉ ts → σ'[j]? = σ[j]?) → (∀ a, Own σ' ρ' a → Own σ ρ a) → Rel C F H σ' ρ' → Q σ' H
def lGs (C : Pr) (ts : List Nat) (g : DGs) : TGs := fun vs σ H Q => ∃ (ρ : Env) (F : Addr → Prop) (ds : List D) (P : Env → Prop), Rel C F H σ ρ ∧ RepL C.K F H vs ds ∧ g ds ρ P ∧
  ∀ ρ', P ρ' → ∀ σ', σ'.length = σ.length → (∀ j, j ∉ ts → σ'[j]? = σ[j]?) → (∀ a, Own σ' ρ' a → Own σ ρ a) → Rel C F H σ' ρ' → Q σ' H
theorem PG.imp {t t' : TG} (h : PG X e t) (k : ∀ v σ H Q, t' v σ H Q → t v σ H Q) : PG X e t' := ⟨fun pins s σ H v u Q I r q => h.run pins s σ H v u Q I r (k _ _ _ _ q)⟩
theorem PGs.imp {t t' : TGs} (h : PGs X es t) (k : ∀ v σ H Q, t' v σ H Q → t v σ H Q) : PGs X es t' := ⟨fun pins s σ H v u Q I r q => h.run pins s σ H v u Q I r (k _ _ _ _ q)⟩
def gN (i : Nat) : DG := fun d ρ P => nbor ρ[i]? ∧ P (ρ.set i (some (.frz d)))
theorem jg_name {x : Str} (hN : X.N.Nodup) (hi : X.N[i]? = some x) (hx : Loc X.env.scope x) (hf : X.fn x = true ∨ X.env.scope.names.lookup x = some .local := by first | exact .inl rfl | exact .inr rfl | assumption) : PG X (.Name x pos) (lG C [i] (gN i)) :=
  PG.imp (pg_name hN hi hx hf) fun v σ H Q ⟨ρ, F, d, P, R, rv, ⟨hn, q⟩, k⟩ =>
    k _ q _ (by rw [List.length_set]) (fun j hj => get_set_ne (by simpa using hj)) (own_putF (d := d)) (R.put (r := .frz d) (Hs := H) hn rv (fun a z => R.h0 z) fun a z => R.noown Ext.refl z)
def gsNil : DGs := fun ds ρ P => ds = [] ∧ P ρ
def gsCons (g : DG) (h : DGs) : DGs := fun ds ρ P => match ds with
  | d :: r => g d ρ fun ρ1 => h r ρ1 P
  | [] => False
theorem jgs_nil : PGs X [] (lGs C [] gsNil) := PGs.imp pgs_nil fun vs σ H Q ⟨ρ, F, ds, P, R, rl, ⟨e, q⟩, k⟩ => by
  subst e
  cases rl
  exact ⟨rfl, k _ q σ rfl (fun _ _ => rfl) (fun _ z => z) R⟩
theorem jgs_cons {ts us : List Nat} {g : DG} {h : DGs} (h1 : PG X e (lG C ts g)) (h2 : PGs X es (lGs C us h)) (hs : (assignEach (e :: es) X.env).map (·.2) = assign e X.env :: (assignEach es X.env).map (·.2) := by rfl) :
    PGs X (e :: es) (lGs C (ts ++ us) (gsCons g h)) := PGs.imp (pgs_cons h1 h2 hs) fun vs σ H Q ⟨ρ, F, ds, P, R, rl, q, k⟩ => by
  match ds, vs, rl, q with
  | [], _, _, q => exact q.elim
  | d :: r, _, .cons rv rr, q =>
    refine ⟨_, _, rfl, ρ, F, d, _, R, rv, q, fun ρ1 p σ1 l1 s1 o1 R1 => ?_⟩
    exact ⟨ρ1, F, r, P, R1, rr, p, fun ρ2 p2 σ2 l2 s2 o2 R2 => k ρ2 p2 σ2 (l2.trans l1) (fun j hj => (s2 j fun z => hj (List.mem_append_right _ z)).trans (s1 j fun z => hj (List.mem_append_left _ z))) (fun a z => o1 a (o2 a z)) R2⟩
def gT (h : DGs) : DG := fun d ρ P => match d with
  | .tup ds => h ds ρ P
  | _ => False
/-- how many targets a list of them takes -/
theorem jg_tup (hC : JC X C) {ts : List Nat} {h : DGs} {n k : Nat} (hc : X.calm = true) (hh : PGs X es (lGs C ts h)) (hlen : ∀ ds ρ P, h ds ρ P → ds.length = n)
    (hn : (assignEach es X.env).length = n := by rfl) (hst : (assignEach es X.env).findIdx? (·.1) = none := by rfl) : PG X (.Tuple es k pos) (lG C ts (gT h)) :=
  PG.imp (L2.pg_tup hc hh hn hst) fun v σ H Q ⟨ρ, F, d, P, R, rv, q, kk⟩ => by
    unfold gT at q
    split at q
    · cases rv with
      | tup s r =>
        rw [hC.k] at s
        exact ⟨_, _, rfl, s, by rw [r.length]; exact hlen _ _ _ q, ρ, F, _, P, R, r, q, kk⟩
    · exact q.elim
theorem gs_len0 : ∀ ds ρ P, gsNil ds ρ P → ds.length = 0 := fun ds _ _ h => by rw [h.1]; rfl
theorem gs_len {g : DG} {h : DGs} {n : Nat} (mono : ∀ d ρ P, g d ρ P → ∃ ρ', P ρ') (hh : ∀ ds ρ P, h ds ρ P → ds.length = n) : ∀ ds ρ P, gsCons g h ds ρ P → ds.length = n + 1 := fun ds ρ P q => by
  match ds, q with
  | d :: r, q =>
    obtain ⟨ρ', p⟩ := mono _ _ _ q
    rw [List.length_cons, hh r ρ' P p]
  | [], q => exact q.elim
theorem gN_ex : ∀ d ρ P, gN i d ρ P → ∃ ρ', P ρ' := fun _ _ _ q => ⟨_, q.2⟩
def dAsg (f : DE) (g : DG) : DS := dsThen f fun r ρ P => g r.d ρ fun ρ' => P .nx ρ'
theorem js_asg {ts : List Nat} {g : DG} (he : PE X e (lE C f)) (hg : PG X a (lG C ts g)) (hs : swapsWithSole [a] e pos.line X.env = pure false := by rfl) (hw : swappedStores [a] e X.env = pure none := by rfl)
    (h1 : (assignEach [a] X.env).map (·.2) = [assign a X.env] := by rfl) : PS X (.Assign [a] e pos) (lS C (dAsg f g)) :=
  PS.imp (ps_asg he hg hs hw h1) fun Dn σ H ⟨ρ, F, P, R, hf, k6⟩ => by
    refine sS R hf k6 fun r ρ1 v H1 F1 x R1 rs q => ?_
    obtain ⟨F2, x2, R2, rv⟩ := RepS.fz R x R1 rs
    exact ⟨ρ1, F2, _, _, R2, rv, q, fun ρ' p σ' _ _ _ R' => k6.nx _ p σ' H1 F2 (x2.keeps R) R'⟩
end
end Ow

set_option Elab.async false
set_option linter.all false
set_option maxRecDepth 100000
set_option maxHeartbeats 2000000
namespace Ow
open PySem PySem.Spec L2
set_option autoImplicit false

/-! ### what is gone through -/
/-- the turns' values, one by one, whatever is done meanwhile -/
def Fed (K : PySem.W.Frag) (F : Addr → Prop) (H : Hp) (J : It) (ds : List D) : Prop :=
  ∀ F' H', Keeps K F H F' H' → ∀ i, (ds.length ≤ i → J.stop i H') ∧ (i < ds.length → J.go i H' ∧ ∀ x H'', J.yld i H' x H'' → Same H' H'' ∧ ∃ d, ds[i]? = some d ∧ Rep K F' H'' x d)
inductive Src (K : PySem.W.Frag) (H : Hp) : V → It → Prop
  | lst {a : Addr} {xs : List V} : SqL K H a xs → Src K H (.ref a) (Itl K a)
  | tup {a : Addr} {xs : List V} : SqT K H a xs → Src K H (.ref a) (Itt K a)
  | str (x : Str) : Src K H (.str x) (Its x)
def iAny (K : PySem.W.Frag) (te : TE) : TI := fun σ H R => te σ H fun v H1 => ∃ J, Src K H1 v J ∧ R J H1
theorem pi_any {X : Cx} {tg e : Expr} {te : TE} (he : PE X e te) : PI X tg e (iAny X.K te) := by
  refine ⟨fun pins s σ H R I h => ?_⟩
  refine thn (he.run pins s σ H _ I h) fun v s1 ⟨x, H1, I1, r1, J, sr, q⟩ => ?_
  cases sr with
  | lst hq =>
    obtain rfl : v = Value.ref _ := r1
    obtain ⟨its, rv, p, hz⟩ := I1.list hq
    refine wpAny_pyIter_list p.isList ?_
    refine ⟨s1.heap.objs.size, [s1.heap.objs.size], _, _, H1, rfl, I1.kept (t' := s1.toks) fun b o e => Heap.get?_push_of_some _ e, turn_list _ _, ⟨_, Heap.get?_push_size _ rfl, rfl, rfl⟩, fun b hb => ?_, q⟩
    have e : b = s1.heap.objs.size := by simpa using hb
    subst e
    exact I1.fpOk (Nat.le_refl _) (I1.hok.fresh (Nat.le_refl _))
  | tup hq =>
    obtain rfl : v = Value.ref _ := r1
    obtain ⟨its, rv, p, hz⟩ := I1.tuple hq
    refine wpAny_pyIter_tuple (show s1.heap.IsTuple _ its.toArray from p) ?_
    refine ⟨s1.heap.objs.size, [s1.heap.objs.size], _, _, H1, rfl, I1.kept (t' := s1.toks) fun b o e => Heap.get?_push_of_some _ e, turn_tuple _ _, ⟨_, Heap.get?_push_size _ rfl, rfl, rfl⟩, fun b hb => ?_, q⟩
    have e : b = s1.heap.objs.size := by simpa using hb
    subst e
    exact I1.fpOk (Nat.le_refl _) (I1.hok.fresh (Nat.le_refl _))
  | str x =>
    obtain ⟨t, rfl⟩ := r1
    cases ha : x.cps.all (· < 128)
    · exact wpAny_pyIter_wide ha (pi_one (tk := s1.toks) I1 _ (turn_str _ x t "str_iterator" (.inr rfl)) ⟨_, Heap.get?_push_size _ rfl, rfl, rfl⟩ q)
    · exact wpAny_pyIter_ascii ha (pi_one (tk := s1.toks) I1 _ (turn_str _ x t "str_ascii_iterator" (.inl rfl)) ⟨_, Heap.get?_push_size _ rfl, rfl, rfl⟩ q)
/-- a text's signs, each a text -/
def signsOf (x : Str) : List D := x.cps.toList.map fun c => .str ⟨#[c]⟩
def rangeD (lo : Int) (n : Nat) : List D := (List.range n).map fun i => .int (lo + (i : Nat))
def enumD (ds : List D) : List D := ds.mapIdx fun i d => .tup [.int (i : Nat), d]
def D.items : D → Option (List D)
  | .lst ds => some ds
  | .arr ds => some ds
  | .tup ds => some ds
  | .str x => some (signsOf x)
  | _ => none
section
variable {K : PySem.W.Frag} {F F' : Addr → Prop} {H H' : Hp}
theorem fed_of {J : It} {ds : List D} (h : ∀ F' H', Keeps K F H F' H' → ∀ i, (ds.length ≤ i → J.stop i H') ∧ (i < ds.length → J.go i H' ∧ ∀ x H'', J.yld i H' x H'' → H'' = H' ∧ ∃ d, ds[i]? = some d ∧ Rep K F' H' x d)) : Fed K F H J ds := fun F' H' k i =>
  ⟨(h F' H' k i).1, fun hi => ⟨((h F' H' k i).2 hi).1, fun x H'' y => by
    obtain ⟨e, z⟩ := ((h F' H' k i).2 hi).2 x H'' y
    subst e
    exact ⟨Same.refl _, z⟩⟩⟩
theorem fed_range {lo : Int} {n : Nat} : Fed K F H (Itr lo n) (rangeD lo n) := fed_of fun F' H' k i => by
  have hl : (rangeD lo n).length = n := by unfold rangeD; simp
  refine ⟨fun h => by rw [hl] at h; exact h, fun h => ⟨by rw [hl] at h; exact h, fun x H'' ⟨e, ex⟩ => ⟨e, .int (lo + (i : Nat)), ?_, ex ▸ .int _⟩⟩⟩
  rw [hl] at h
  unfold rangeD
  simp [h]
theorem fed_str {x : Str} : Fed K F H (Its x) (signsOf x) := fed_of fun F' H' k i => by
  have hl : (signsOf x).length = x.cps.size := by unfold signsOf; simp
  refine ⟨fun h => by rw [hl] at h; exact h, fun h => ⟨by rw [hl] at h; exact h, fun v H'' ⟨e, c, hc, ex⟩ => ⟨e, .str ⟨#[c]⟩, ?_, ex ▸ .str _⟩⟩⟩
  unfold signsOf
  simp [hc]
theorem fed_sqL {a : Addr} {xs : List V} {ds : List D} (hq : ∀ F' H', Keeps K F H F' H' → SqL K H' a xs) (r : RepL K F H xs ds) : Fed K F H (Itl K a) ds := fed_of fun F' H' k i => by
  have hq' := hq F' H' k
  refine ⟨fun h => ⟨xs, hq', by rw [r.length]; exact h⟩, fun h => ?_⟩
  obtain ⟨v, hv, rv⟩ := r.get (List.getElem?_eq_getElem h)
  exact ⟨⟨xs, v, hq', hv⟩, fun x H'' ⟨e, ex⟩ => ⟨e, _, List.getElem?_eq_getElem h, by
    have z := ex xs hq'
    rw [hv] at z
    cases z
    exact rv.keep k⟩⟩
theorem fed_sqT {a : Addr} {xs : List V} {ds : List D} (hq : SqT K H a xs) (r : RepL K F H xs ds) : Fed K F H (Itt K a) ds := fed_of fun F' H' k i => by
  have hq' := keep_sqT k hq
  refine ⟨fun h => ⟨xs, hq', by rw [r.length]; exact h⟩, fun h => ?_⟩
  obtain ⟨v, hv, rv⟩ := r.get (List.getElem?_eq_getElem h)
  exact ⟨⟨xs, v, hq', hv⟩, fun x H'' ⟨e, ex⟩ => ⟨e, _, List.getElem?_eq_getElem h, by
    have z := ex xs hq'
    rw [hv] at z
    cases z
    exact rv.keep k⟩⟩
theorem fed_src {v : V} {d : D} {ds : List D} (r : Rep K F H v d) (h : d.items = some ds) : ∃ J, Src K H v J ∧ Fed K F H J ds := by
  cases d with
  | lst l =>
    cases h
    cases r with
    | lst f s r => exact ⟨_, .lst (.of s), fed_sqL (fun F' H' k => .of (k.fz _ _ f s)) r⟩
  | arr l =>
    cases h
    cases r with
    | arr s r => exact ⟨_, .lst s.sq, fed_sqL (fun F' H' k => (keep_arr k s).sq) r⟩
  | tup l =>
    cases h
    cases r with
    | tup s r => exact ⟨_, .tup s, fed_sqT s r⟩
  | str x =>
    cases h
    cases r
    exact ⟨_, .str x, fed_str⟩
  | non => cases h
  | bl b => cases h
  | int i => cases h
  | dK l => cases h
  | obj c l => cases h
  | ptr a => cases h
theorem fed_enum {a : Addr} {xs : List V} {ds : List D} (hq : ∀ F' H', Keeps K F H F' H' → SqL K H' a xs) (r : RepL K F H xs ds) : Fed K F H (Ite K a) (enumD ds) := fun F' H' k i => by
  have hq' := hq F' H' k
  have hl : (enumD ds).length = ds.length := by unfold enumD; simp
  rw [hl]
  refine ⟨fun h => ⟨xs, hq', by rw [r.length]; exact h⟩, fun h => ?_⟩
  obtain ⟨v, hv, rv⟩ := r.get (List.getElem?_eq_getElem h)
  refine ⟨⟨xs, v, hq', hv⟩, fun x H'' ⟨T, y, e, hT, e2, ex⟩ => ?_⟩
  have z := ex xs hq'
  rw [hv] at z
  cases z
  subst e e2
  refine ⟨same_new hT, .tup [.int (i : Nat), ds[i]], by unfold enumD; simp [h], .tup (.of upd_same) (.cons (.int _) (.cons ((rv.keep k).keep (keeps_same (same_new hT))) .nil))⟩
end

/-- a source of turns: its items -/
def lI (C : Pr) (f : DA) : TI := fun σ H R => ∃ (ρ : Env) (F : Addr → Prop) (P : AO → Env → Prop), Rel C F H σ ρ ∧ f ρ P ∧
  (∀ ds ρ', P (.ok ds) ρ' → ∀ J H' F', Ext σ ρ ρ' F H F' H' → Rel C F' H' σ ρ' → Fed C.K F' H' J ds → R J H') ∧ exA C σ ρ F H P
def dItems (f : DE) : DA := fun ρ P => f ρ fun o ρ1 => match o with
  | .ok r => ∃ ds, r.d.items = some ds ∧ P (.ok ds) ρ1
  | .ex c x => P (.ex c x) ρ1
def daMap (g : DA) (k : List D → (List D → Prop) → Prop) : DA := fun ρ P => g ρ fun ao ρ1 => match ao with
  | .ok ds => k ds fun es => P (.ok es) ρ1
  | .ex c x => P (.ex c x) ρ1
def kRng1 : List D → (List D → Prop) → Prop := fun ds P => match ds with
  | [.int j] => (-(2 ^ 62) ≤ j ∧ j < 2 ^ 62) ∧ P (rangeD 0 j.toNat)
  | _ => False
def kRng2 : List D → (List D → Prop) → Prop := fun ds P => match ds with
  | [.int i, .int j] => ((-(2 ^ 62) ≤ i ∧ i < 2 ^ 62) ∧ -(2 ^ 62) ≤ j ∧ j < 2 ^ 62) ∧ P (rangeD i (j - i).toNat)
  | _ => False
def kEnum : List D → (List D → Prop) → Prop := fun ds P => match ds with
  | [.lst l] => P (enumD l)
  | [.arr l] => P (enumD l)
  | _ => False
section
variable {X : Cx} {C : Pr} {tg e a b : Expr} {es : List Expr} {f : DE} {g : DA} {p pos tpos : Pos}
theorem PI.imp {t t' : TI} (h : PI X tg e t) (i : ∀ σ H R, t' σ H R → t σ H R) : PI X tg e t' := ⟨fun pins s σ H R I q => h.run pins s σ H R I (i _ _ _ q)⟩
theorem ji_val (hC : JC X C) (h : PE X e (lE C f)) : PI X tg e (lI C (dItems f)) := PI.imp (pi_any h) fun σ H R ⟨ρ, F, P, R0, hf, k1, k2⟩ => by
  refine ⟨ρ, F, _, R0, hf, fun r ρ1 q v H1 F1 x R1 rs => ?_, fun c y ρ1 q => k2 c y ρ1 q⟩
  obtain ⟨F2, x2, R2, rv⟩ := RepS.fz R0 x R1 rs
  obtain ⟨ds, e, q⟩ := q
  obtain ⟨J, s, fd⟩ := fed_src rv e
  exact ⟨J, by rw [← hC.k]; exact s, k1 ds ρ1 q J H1 F2 x2 R2 fd⟩
theorem en_args {k : List D → (List D → Prop) → Prop} {σ : L2.St} {H : Hp} {R : It → Hp → Prop} {T : List V → Hp → Prop} (h : lI C (daMap g k) σ H R)
    (i : ∀ (ds : List D) (vs : List V) (F1 : Addr → Prop) (H1 : Hp) (Pk : List D → Prop), RepL C.K F1 H1 vs ds → k ds Pk → (∀ es J, Pk es → Fed C.K F1 H1 J es → R J H1) → T vs H1) : lA C g σ H T := by
  obtain ⟨ρ, F, P, R0, hf, k1, k2⟩ := h
  exact ⟨ρ, F, _, R0, hf, fun ds ρ1 q vs H1 F1 x R1 rl => i ds vs F1 H1 _ rl q fun es J pe fd => k1 es ρ1 pe J H1 F1 x R1 fd, fun c y ρ1 q => k2 c y ρ1 q⟩
theorem ji_rng1 (hg : Gl X "range") (hm : X.mg "range" = none) (ha : PA X [a] (lA C g)) (hs : starEach [a] X.env = [(false, eval a X.env)] := by rfl) : PI X tg (.Call (.Name "range" p) [a] [] pos) (lI C (daMap g kRng1)) :=
  PI.imp (pi_range1 hg hm ha hs) fun σ H R h => en_args h fun ds vs F1 H1 Pk rl q k => by
    unfold kRng1 at q
    split at q
    · cases rl with
      | cons r rr =>
        cases rr
        cases r
        exact ⟨_, rfl, q.1.1, q.1.2, k _ _ q.2 fed_range⟩
    · exact q.elim
theorem ji_rng2 (hg : Gl X "range") (hm : X.mg "range" = none) (ha : PA X [a, b] (lA C g)) (hs : starEach [a, b] X.env = [(false, eval a X.env), (false, eval b X.env)] := by rfl) (hs2 : starEach [b] X.env = [(false, eval b X.env)] := by rfl) : PI X tg (.Call (.Name "range" p) [a, b] [] pos) (lI C (daMap g kRng2)) :=
  PI.imp (pi_range2 hg hm ha hs hs2) fun σ H R h => en_args h fun ds vs F1 H1 Pk rl q k => by
    unfold kRng2 at q
    split at q
    · cases rl with
      | cons r rr =>
        cases rr with
        | cons r2 rr =>
          cases rr
          cases r
          cases r2
          exact ⟨_, _, rfl, ⟨q.1.1.1, q.1.1.2, q.1.2.1, q.1.2.2⟩, k _ _ q.2 fed_range⟩
    · exact q.elim
theorem ji_enum (hC : JC X C) {elts : List Expr} {kk : Nat} (hg : Gl X "enumerate") (hm : X.mg "enumerate" = none) (ha : PA X [e] (lA C g)) (hs : starEach [e] X.env = [(false, eval e X.env)] := by rfl) :
    PI X (.Tuple elts kk tpos) (.Call (.Name "enumerate" p) [e] [] pos) (lI C (daMap g kEnum)) :=
  PI.imp (pi_enum hg hm ha hs) fun σ H R h => en_args h fun ds vs F1 H1 Pk rl q k => by
    rw [← hC.k]
    unfold kEnum at q
    split at q
    · cases rl with
      | cons r rr =>
        cases rr
        cases r with
        | lst f s r => exact ⟨_, _, rfl, .of s, k _ _ q (fed_enum (fun F' H' k => .of (k.fz _ _ f s)) r)⟩
    · cases rl with
      | cons r rr =>
        cases rr
        cases r with
        | arr s r => exact ⟨_, _, rfl, s.sq, k _ _ q (fed_enum (fun F' H' k => (keep_arr k s).sq) r)⟩
    · exact q.elim
end
end Ow

set_option Elab.async false
set_option linter.all false
set_option maxRecDepth 100000
set_option maxHeartbeats 2000000
namespace Ow
open PySem PySem.Spec L2
set_option autoImplicit false

/-! ### for -/
def dForGo (g : DG) (body : DS) : List D → Env → (SO → Env → Prop) → Prop
  | [], ρ, P => P .nx ρ
  | d :: ds, ρ, P => g d ρ fun ρ1 => body ρ1 fun so ρ2 => match so with
    | .nx => dForGo g body ds ρ2 P
    | .cnt => dForGo g body ds ρ2 P
    | .brk => P .nx ρ2
    | .ret r => P (.ret r) ρ2
    | .ex c x => P (.ex c x) ρ2
def dFor (it : DA) (g : DG) (body : DS) : DS := fun ρ P => it ρ fun ao ρ1 => match ao with
  | .ok ds => dForGo g body ds ρ1 P
  | .ex c x => P (.ex c x) ρ1
section
variable {X : Cx} {C : Pr} {tg e a b iter : Expr} {es : List Expr} {f : DE} {it : DA} {g : DG} {h : DS} {p pos tpos : Pos} {ts : List Nat}
theorem js_for {body : List Stmt} (hp : PassesOwn (model X.prog X.w) X.A X.env X.xe) (hc : X.calm = true) (hi : PI X tg iter (lI C it)) (hg : PG X tg (lG C ts g)) (hb : PSs X body (lS C h))
    (hs : ∀ x, foldedSetIterable iter X.env x = pure x := by intro _; rfl) : PS X (.For tg iter body [] pos) (lS C (dFor it g h)) :=
  PS.imp (ps_for hp hc hi hg hb hs) fun Dn σ H ⟨ρ, F, P, R, hf, k6⟩ => by
    refine ⟨ρ, F, _, R, hf, fun ds ρ1 q J H1 F1 x R1 fd => ?_, fun c y ρ1 q cls dd H1 F1 x R1 xo => k6.ex c y ρ1 q cls dd σ H1 F1 (x.keeps R) R1 (xo.bk fun a z => R.h0 z)⟩
    have k1 := k6.go (x.keeps R)
    refine ⟨fun i m σ' H' => ∃ ρ' F', Rel C F' H' σ' ρ' ∧ Keeps C.K F1 H1 F' H' ∧ dForGo g h (ds.drop i) ρ' P ∧ m = ds.length - i ∧ i ≤ ds.length, ⟨ds.length, ρ1, F1, R1, .refl, q, by simp, Nat.zero_le _⟩, ?_⟩
    rintro i m σ' H' ⟨ρ', F', R', kp, q', rfl, hi'⟩
    have fd' := fd F' H' kp i
    by_cases hlt : i < ds.length
    · obtain ⟨go, yl⟩ := fd'.2 hlt
      refine .inr ⟨go, fun σ2 H2 => ∃ ρ2 F2, Rel C F2 H2 σ2 ρ2 ∧ Keeps C.K F1 H1 F2 H2 ∧ dForGo g h (ds.drop (i + 1)) ρ2 P, fun σ2 H2 ⟨ρ2, F2, R2, kp2, q2⟩ => ⟨ds.length - (i + 1), by omega, ρ2, F2, R2, kp2, q2, rfl, hlt⟩, fun x' H2 y => ?_⟩
      obtain ⟨sm, d, hd, rv⟩ := yl x' H2 y
      rw [List.drop_eq_getElem_cons hlt] at q'
      have hd' : ds[i] = d := by
        rw [List.getElem?_eq_getElem hlt] at hd
        exact Option.some.inj hd
      rw [hd'] at q'
      have kp2 : Keeps C.K F1 H1 F' H2 := kp.trans (keeps_same sm)
      refine ⟨ρ', F', d, _, R'.same sm, rv, q', fun ρ2 p2 σ2 _ _ _ R2 => ⟨ρ2, F', _, R2, p2, ?_⟩⟩
      exact ⟨fun ρ3 p3 σ3 H3 F3 k3 R3 => ⟨ρ3, F3, R3, kp2.trans k3, p3⟩, fun ρ3 p3 σ3 H3 F3 k3 R3 => k1.nx ρ3 p3 σ3 H3 F3 (kp2.trans k3) R3, fun ρ3 p3 σ3 H3 F3 k3 R3 => ⟨ρ3, F3, R3, kp2.trans k3, p3⟩,
        fun r ρ3 p3 v σ3 H3 F3 k3 R3 => k1.ret r ρ3 p3 v σ3 H3 F3 (kp2.trans k3) R3, fun c z ρ3 p3 cls dd σ3 H3 F3 k3 R3 => k1.ex c z ρ3 p3 cls dd σ3 H3 F3 (kp2.trans k3) R3⟩
    · have e : i = ds.length := by omega
      subst e
      rw [List.drop_length] at q'
      exact .inl ⟨fd'.1 (Nat.le_refl _), k1.nx ρ' q' σ' H' F' kp R'⟩
end

/-! ### the slots of a block -/
def wipeD (ρ : Env) : List Nat → Env
  | [] => ρ
  | v :: vs => (wipeD ρ vs).set v none
def backD (ρ ρ' : Env) : List Nat → Env
  | [] => ρ'
  | v :: vs => (backD ρ ρ' vs).set v (ρ[v]?.getD none)
/-- no object in these slots that is changed -/
def still (ρ : Env) (vs : List Nat) : Prop := ∀ v ∈ vs, ∀ s d, ρ[v]? = some (some s) → s.mt = some d → False
def nborL (ρ : Env) (vs : List Nat) : Prop := ∀ v ∈ vs, ∀ d, ρ[v]? = some (some (.bor d)) → False
section
variable {C : Pr} {F F' F1 : Addr → Prop} {H H' H1 Hs : Hp} {σ σ' : L2.St} {ρ ρ' : Env} {vs : List Nat}
theorem wipe_get : ∀ {vs : List Nat} {i : Nat}, i ∉ vs → (wipe σ vs)[i]? = σ[i]?
  | [], _, _ => rfl
  | v :: vs, i, h => by
    unfold wipe
    rw [get_set_ne (fun e => h (by rw [e]; exact List.mem_cons_self)), wipe_get fun z => h (List.mem_cons_of_mem _ z)]
theorem wipeD_len : ∀ vs : List Nat, (wipeD ρ vs).length = ρ.length
  | [] => rfl
  | v :: vs => by unfold wipeD; rw [List.length_set, wipeD_len vs]
theorem backD_len : ∀ vs : List Nat, (backD ρ ρ' vs).length = ρ'.length
  | [] => rfl
  | v :: vs => by unfold backD; rw [List.length_set, backD_len vs]
theorem wipeD_get : ∀ {vs : List Nat} {i : Nat}, i ∉ vs → (wipeD ρ vs)[i]? = ρ[i]?
  | [], _, _ => rfl
  | v :: vs, i, h => by
    unfold wipeD
    rw [get_set_ne (fun e => h (by rw [e]; exact List.mem_cons_self)), wipeD_get fun z => h (List.mem_cons_of_mem _ z)]
theorem wipeD_some : ∀ {vs : List Nat} {i : Nat} {s : SV}, (wipeD ρ vs)[i]? = some (some s) → ρ[i]? = some (some s) ∧ i ∉ vs
  | [], _, _, h => ⟨h, by simp⟩
  | v :: vs, i, s, h => by
    unfold wipeD at h
    rcases set_get h with ⟨_, e, _⟩ | ⟨ne, h⟩
    · cases e
    · obtain ⟨h1, h2⟩ := wipeD_some h
      exact ⟨h1, by simp only [List.mem_cons, not_or]; exact ⟨ne, h2⟩⟩
theorem backD_get : ∀ {vs : List Nat} {i : Nat}, i ∉ vs → (backD ρ ρ' vs)[i]? = ρ'[i]?
  | [], _, _ => rfl
  | v :: vs, i, h => by
    unfold backD
    rw [get_set_ne (fun e => h (by rw [e]; exact List.mem_cons_self)), backD_get fun z => h (List.mem_cons_of_mem _ z)]
theorem backD_in {o : Option SV} : ∀ {vs : List Nat} {i : Nat}, i ∈ vs → (backD ρ ρ' vs)[i]? = some o → o = ρ[i]?.getD none
  | v :: vs, i, h, e => by
    unfold backD at e
    rcases set_get e with ⟨e1, e2, _⟩ | ⟨ne, e⟩
    · rw [e1]; exact e2.symm
    · exact backD_in ((List.mem_cons.mp h).resolve_left ne) e
theorem Rel.wipe (R : Rel C F H σ ρ) (nb : nborL ρ vs) : Rel C F H (wipe σ vs) (wipeD ρ vs) where
  len := by rw [wipe_length, wipeD_len]; exact R.len
  frz := fun i d e => by
    obtain ⟨h, n⟩ := wipeD_some e
    rw [wipe_get n]
    exact R.frz i d h
  mt := fun i s d e m => by
    obtain ⟨h, n⟩ := wipeD_some e
    rw [wipe_get n]
    exact R.mt i s d h m
  sep := fun i j s t d e a h1 h2 m1 m2 q1 q2 => by
    obtain ⟨h1, n1⟩ := wipeD_some h1
    obtain ⟨h2, n2⟩ := wipeD_some h2
    rw [wipe_get n1] at q1
    rw [wipe_get n2] at q2
    exact R.sep i j s t d e a h1 h2 m1 m2 q1 q2
  bor := fun i a e => by
    obtain ⟨h1, d, h2⟩ := R.bor i a e
    have n : i ∉ vs := fun z => nb i z d h2
    rw [wipe_get n, wipeD_get n]
    exact ⟨h1, d, h2⟩
  obor := fun i d e => R.obor i d (wipeD_some e).1
  ent := R.ent
  fnew := R.fnew
  f0 := R.f0
  trk := R.trk
  pin := R.pin
theorem own_wipe {a : Addr} (h : Own (wipe σ vs) (wipeD ρ vs) a) : Own σ ρ a := by
  obtain ⟨i, s, d, h1, h2, h3⟩ := h
  obtain ⟨h1, n⟩ := wipeD_some h1
  rw [wipe_get n] at h3
  exact ⟨i, s, d, h1, h2, h3⟩
/-- the block's end: its slots are again what they were -/
theorem Rel.back (R0 : Rel C F H σ ρ) (st : still ρ vs) (R : Rel C F' H' (L2.wipe σ vs) ρ') (hw : ∀ v ∈ vs, ∀ s, ρ'[v]? ≠ some (some s)) (k : Keeps C.K F H F' H') : Rel C F' H' σ (backD ρ ρ' vs) := by
  have key : ∀ {i : Nat} {s : SV}, (backD ρ ρ' vs)[i]? = some (some s) → (i ∉ vs ∧ ρ'[i]? = some (some s)) ∨ (i ∈ vs ∧ ρ[i]? = some (some s)) := fun {i s} e => by
    by_cases hi : i ∈ vs
    · have z := backD_in hi e
      refine .inr ⟨hi, ?_⟩
      cases q : ρ[i]? with
      | none => rw [q] at z; cases z
      | some o => rw [q] at z; rw [z]; rfl
    · rw [backD_get hi] at e
      exact .inl ⟨hi, e⟩
  have ws : ∀ {i : Nat}, i ∉ vs → (L2.wipe σ vs)[i]? = σ[i]? := fun h => wipe_get h
  refine ⟨by rw [backD_len, ← R.len, wipe_length], fun i d e => ?_, fun i s d e m => ?_, fun i j s t d e a h1 h2 m1 m2 q1 q2 => ?_, fun i a e => ?_, fun i d e => ?_, R.ent, R.fnew, R.f0, R.trk, R.pin⟩
  · rcases key e with ⟨n, e⟩ | ⟨n, e⟩
    · rw [← ws n]; exact R.frz i d e
    · obtain ⟨v, h1, h2⟩ := R0.frz i d e
      exact ⟨v, h1, h2.keep k⟩
  · rcases key e with ⟨n, e⟩ | ⟨n, e⟩
    · rw [← ws n]; exact R.mt i s d e m
    · exact (st i n s d e m).elim
  · rcases key h1 with ⟨n1, h1⟩ | ⟨n1, h1⟩
    · rcases key h2 with ⟨n2, h2⟩ | ⟨n2, h2⟩
      · rw [← ws n1] at q1
        rw [← ws n2] at q2
        exact R.sep i j s t d e a h1 h2 m1 m2 q1 q2
      · exact (st j n2 t e h2 m2).elim
    · exact (st i n1 s d h1 m1).elim
  · obtain ⟨h1, d, h2⟩ := R.bor i a e
    have n : i ∉ vs := fun z => hw i z _ h2
    rw [ws n] at h1
    exact ⟨h1, d, by rw [backD_get n]; exact h2⟩
  · rcases key e with ⟨n, e⟩ | ⟨n, e⟩
    · exact R.obor i d e
    · exact (st i n _ d e rfl).elim
theorem own_back {a : Addr} (st : still ρ vs) (h : Own σ (backD ρ ρ' vs) a) : Own (wipe σ vs) ρ' a := by
  obtain ⟨i, s, d, h1, h2, h3⟩ := h
  by_cases hi : i ∈ vs
  · have z := backD_in hi h1
    cases q : ρ[i]? with
    | none => rw [q] at z; cases z
    | some o =>
      rw [q] at z
      cases z
      exact (st i hi s d q h2).elim
  · rw [backD_get hi] at h1
    exact ⟨i, s, d, h1, h2, by rw [wipe_get hi]; exact h3⟩
theorem wipe_eq : ∀ {vs : List Nat}, σ'.length = σ.length → (∀ j, j ∉ vs → σ'[j]? = σ[j]?) → wipe σ' vs = wipe σ vs := fun {vs} hl h => by
  apply List.ext_getElem?
  intro i
  by_cases hi : i ∈ vs
  · have key : ∀ (τ : L2.St), (wipe τ vs)[i]? = if i < τ.length then some none else none := fun τ => by
      clear h
      induction vs with
      | nil => cases hi
      | cons v vs ih =>
        unfold wipe
        by_cases e : i = v
        · subst e
          rw [List.getElem?_set, if_pos rfl, wipe_length]
        · rw [get_set_ne e]
          exact ih ((List.mem_cons.mp hi).resolve_left e)
    rw [key, key, hl]
  · rw [wipe_get hi, wipe_get hi]
    exact h i hi
/-- an object beside all this is changed -/
theorem Rel.aside (R : Rel C F H σ ρ) {a : Addr} {xs ys : List V} (nf : ¬ F a) (no : ¬ Own σ ρ a) (h0 : C.H0 a = none) (h : H a = some (.lst xs)) : Rel C F (L2.upd H a (.lst ys)) σ ρ := by
  have kp : ∀ b o, H b = some o → b ≠ a → (L2.upd H a (.lst ys)) b = some o := fun b o q n => by rw [upd_ne n]; exact q
  have K1 : Keeps C.K F H F (L2.upd H a (.lst ys)) := keeps_upd nf h (fun _ e => nomatch e) (fun _ _ e => nomatch e)
  refine ⟨R.len, fun i d e => let ⟨v, p, q⟩ := R.frz i d e; ⟨v, p, q.keep K1⟩, fun i s d e m => ?_, R.sep, R.bor, R.obor, fun b o e n => ?_, R.fnew, R.f0, fun b f => ?_, fun p hp => let ⟨x, b, c⟩ := R.pin p hp; ⟨x, K1.fz _ _ x b, c.keep K1⟩⟩
  · obtain ⟨b, x, y, w, z⟩ := R.mt i s d e m
    have ne : b ≠ a := fun q => no ⟨i, s, d, e, m, by rw [← q]; exact x⟩
    exact ⟨b, x, y, w.keep K1 fun o q => kp b o q ne, z⟩
  · refine kp b o (R.ent b o e n) fun q => ?_
    subst q
    rw [h0] at e
    cases e
  · obtain ⟨o, ho⟩ := R.trk b f
    exact ⟨o, kp b o ho fun q => nf (q ▸ f)⟩
end
end Ow

set_option Elab.async false
set_option linter.all false
set_option maxRecDepth 100000
set_option maxHeartbeats 2000000
namespace Ow
open PySem PySem.Spec L2
set_option autoImplicit false

/-- the same, and no error may come -/
def Pr.q (C : Pr) : Pr := { C with W := fun _ _ _ _ => False }
section
variable {C : Pr} {F F' F1 F2 : Addr → Prop} {H H' H1 H2 Hs : Hp} {σ σ' σ2 : L2.St} {ρ ρ' ρ2 : Env} {vs : List Nat}
theorem Rel.q (R : Rel C F H σ ρ) : Rel C.q F H σ ρ := ⟨R.len, R.frz, R.mt, R.sep, R.bor, R.obor, R.ent, R.fnew, R.f0, R.trk, R.pin⟩
theorem Rel.unq (R : Rel C.q F H σ ρ) : Rel C F H σ ρ := ⟨R.len, R.frz, R.mt, R.sep, R.bor, R.obor, R.ent, R.fnew, R.f0, R.trk, R.pin⟩
structure ExtG (σ : L2.St) (ρ : Env) (F : Addr → Prop) (H : Hp) (σ' : L2.St) (ρ' : Env) (F' : Addr → Prop) (H' : Hp) : Prop where
  sub : ∀ a, F a → F' a
  keep : ∀ a o, H a = some o → ¬ Own σ ρ a → H' a = some o
  new : ∀ a, F' a → F a ∨ H a = none ∨ Own σ ρ a
  own : ∀ a, Own σ' ρ' a → Own σ ρ a
  bk : ∀ a, H' a = none → H a = none
theorem ExtG.then (a : ExtG σ ρ F H σ' ρ' F' H') (b : Ext σ' ρ' ρ2 F' H' F2 H2) : ExtG σ ρ F H σ' ρ2 F2 H2 :=
  ⟨fun x h => b.sub x (a.sub x h), fun x o h n => b.keep x o (a.keep x o h n) fun z => n (a.own x z), fun x h => by
    rcases b.new x h with h | h | h
    · exact a.new x h
    · exact .inr (.inl (a.bk x h))
    · exact .inr (.inr (a.own x h)), fun x h => a.own x (b.own x h), fun x h => a.bk x (b.bk x h)⟩
theorem ExtG.slots (a : ExtG σ ρ F H σ' ρ' F' H') (h : ∀ a, Own σ2 ρ2 a → Own σ' ρ' a) : ExtG σ ρ F H σ2 ρ2 F' H' := ⟨a.sub, a.keep, a.new, fun x z => a.own x (h x z), a.bk⟩
theorem ExtG.aside (a : ExtG σ ρ F H σ' ρ' F' H') {D : Addr} {o : HO} (h : H D = none) : ExtG σ ρ F H σ' ρ' F' (upd H' D o) :=
  ⟨a.sub, fun x u e n => by rw [upd_ne (ne_of_none e h)]; exact a.keep x u e n, a.new, a.own, fun x e => a.bk x (upd_bk x e)⟩
theorem ExtG.ext (a : ExtG σ ρ F H σ ρ' F' H') : Ext σ ρ ρ' F H F' H' := ⟨a.sub, a.keep, a.new, a.own, a.bk⟩
end
def lTT (C : Pr) : Option DE → TT
  | none => tYes
  | some f => lT C f
def dTT : Option DE → DE
  | none => dC (.bl true)
  | some f => f
section
variable {X : Cx} {C : Pr} {e : Expr} {f : DE}
theorem jts_nil : PTs X [] (lTT C none) := pts_nil
theorem jts_one (h : PT X e (lT C f)) : PTs X [e] (lTT C (some f)) := pts_one h
theorem lTT_in {C : Pr} {t : Option DE} {σ : L2.St} {H : Hp} {Q : Bool → Hp → Prop} (h : lT C (dTT t) σ H Q) : lTT C t σ H Q := by
  cases t with
  | none =>
    obtain ⟨ρ, F, P, R, hf, k1, k2⟩ := h
    obtain ⟨b, e, q⟩ := k1 _ _ hf
    cases e
    exact q H F Ext.refl R
  | some f => exact h
end
/-- one turn of a list comprehension: its value, or none -/
def lcTurn (vs : List Nat) (g : DG) (t : Option DE) (f : DE) (d : D) (ρ : Env) (K : Option D → Env → Prop) : Prop := g d ρ fun ρ1 => dTT t ρ1 fun o ρ2 => match o with
  | .ok r => onB r (f ρ2 fun o2 ρ3 => match o2 with
    | .ok r2 => nborL ρ3 vs ∧ K (some r2.d) (wipeD ρ3 vs)
    | .ex _ _ => False) (nborL ρ2 vs ∧ K none (wipeD ρ2 vs))
  | .ex _ _ => False
/-- the turns of a list comprehension -/
def dLcGo (vs : List Nat) (g : DG) (t : Option DE) (f : DE) : List D → List D → Env → (O → Env → Prop) → Prop
  | [], acc, ρ, P => P (.ok (.own (.lst acc))) ρ
  | d :: ds, acc, ρ, P => lcTurn vs g t f d ρ fun o ρ' => match o with
    | some v => acc.length < sizeLine ∧ dLcGo vs g t f ds (acc ++ [v]) ρ' P
    | none => dLcGo vs g t f ds acc ρ' P
def dLc (it : DA) (vs : List Nat) (g : DG) (t : Option DE) (f : DE) : DE := fun ρ P => it ρ fun ao ρ1 => match ao with
  | .ok ds => still ρ1 vs ∧ dLcGo vs g t f ds [] (wipeD ρ1 vs) fun o ρ2 => P o (backD ρ1 ρ2 vs)
  | .ex c x => P (.ex c x) ρ1
section
variable {C : Pr}
theorem wiped : ∀ {vs : List Nat} {ρ : Env}, ∀ v ∈ vs, ∀ s, (wipeD ρ vs)[v]? ≠ some (some s) := fun v hv s e => (wipeD_some e).2 hv
theorem en_lc {it : DA} {g : DG} {t : Option DE} {f : DE} {ts vs : List Nat} {σ : L2.St} {H : Hp} {Q : VK} (hts : ∀ j ∈ ts, j ∈ vs) (h : lE C (dLc it vs g t f) σ H Q) :
    tLc (lI C it) (lG C.q ts g) (lTT C.q t) (lE C.q f) vs σ H Q := by
  obtain ⟨ρ, F, P, R, hf, k1, k2⟩ := h
  refine ⟨ρ, F, _, R, hf, fun ds ρ1 q J H1 F1 x R1 fd => ?_, fun c y ρ1 q => k2 c y ρ1 q⟩
  obtain ⟨st, q⟩ := q
  intro Dd hD
  have nF : ¬ F1 Dd := fun z => by
    obtain ⟨o, ho⟩ := R1.trk _ z
    rw [hD] at ho
    cases ho
  have nO : ¬ Own σ ρ1 Dd := fun ⟨i, s, d, h1, h2, h3⟩ => by
    obtain ⟨b, e1, _, t, _⟩ := R1.mt i s d h1 h2
    rw [h3] at e1
    cases e1
    obtain ⟨o, ho, _⟩ := t.at_
    rw [hD] at ho
    cases ho
  have h0 : C.H0 Dd = none := R1.h0 hD
  have nb1 : nborL ρ1 vs := fun v hv d e => st v hv _ d e rfl
  have K0 : Keeps C.K F1 H1 F1 (upd H1 Dd (.lst [])) := keeps_same (same_new hD)
  refine ⟨fun i m H' => ∃ ρ' F' acc accD, Rel C F' H' (wipe σ vs) ρ' ∧ (∀ v ∈ vs, ∀ s, ρ'[v]? ≠ some (some s)) ∧ ExtG σ ρ1 F1 H1 (wipe σ vs) ρ' F' H' ∧ Keeps C.K F1 H1 F' H' ∧ H' Dd = some (.lst acc) ∧ RepL C.K F' H' acc accD ∧ ¬ F' Dd ∧ ¬ Own (wipe σ vs) ρ' Dd ∧
    dLcGo vs g t f (ds.drop i) accD ρ' (fun o ρ2 => P o (backD ρ1 ρ2 vs)) ∧ m = ds.length - i ∧ i ≤ ds.length, ⟨ds.length, wipeD ρ1 vs, F1, [], [], (R1.same (same_new hD)).wipe nb1, wiped, ⟨fun _ z => z, fun a o e n => same_new hD a o e, fun _ z => .inl z, fun a z => own_wipe z, fun a e => upd_bk a e⟩, K0, upd_same, .nil, nF, fun z => nO (own_wipe z), q, by simp, Nat.zero_le _⟩, ?_⟩
  rintro i m H' ⟨ρ', F', acc, accD, R', hw, xg, kp, hDd, rl, nF', nO', q', rfl, hi'⟩
  have fd' := fd F' H' kp i
  by_cases hlt : i < ds.length
  · obtain ⟨go, yl⟩ := fd'.2 hlt
    refine .inr ⟨go, fun H2 => ∃ ρ2 F2 acc2 acc2D, Rel C F2 H2 (wipe σ vs) ρ2 ∧ (∀ v ∈ vs, ∀ s, ρ2[v]? ≠ some (some s)) ∧ ExtG σ ρ1 F1 H1 (wipe σ vs) ρ2 F2 H2 ∧ Keeps C.K F1 H1 F2 H2 ∧ H2 Dd = some (.lst acc2) ∧ RepL C.K F2 H2 acc2 acc2D ∧ ¬ F2 Dd ∧ ¬ Own (wipe σ vs) ρ2 Dd ∧
      dLcGo vs g t f (ds.drop (i + 1)) acc2D ρ2 (fun o ρ2 => P o (backD ρ1 ρ2 vs)), fun H2 ⟨ρ2, F2, a2, a2D, z1, z2, z3, z4, z5, z6, z7, z8, z9⟩ => ⟨ds.length - (i + 1), by omega, ρ2, F2, a2, a2D, z1, z2, z3, z4, z5, z6, z7, z8, z9, rfl, hlt⟩, fun x' H2 y => ?_⟩
    obtain ⟨sm, d, hd, rv⟩ := yl x' H2 y
    rw [List.drop_eq_getElem_cons hlt] at q'
    have hd' : ds[i] = d := by
      rw [List.getElem?_eq_getElem hlt] at hd
      exact Option.some.inj hd
    rw [hd'] at q'
    have kp2 : Keeps C.K F1 H1 F' H2 := kp.trans (keeps_same sm)
    have xg2 : ExtG σ ρ1 F1 H1 (wipe σ vs) ρ' F' H2 := xg.then (Ext.same sm)
    refine ⟨ρ', F', d, _, (R'.same sm).q, rv, q', fun ρ2 p2 σ2 l2 s2 o2 R2 => ?_⟩
    have R2 := R2.unq
    have ew : wipe σ2 vs = wipe σ vs := by
      have e1 : wipe σ2 vs = wipe (wipe σ vs) vs := wipe_eq l2 fun j hj => s2 j fun z => hj (hts j z)
      rw [e1]
      exact wipe_eq (wipe_length _ _) fun j hj => wipe_get hj
    refine ⟨ew, lTT_in ?_⟩
    have xg2' : ExtG σ ρ1 F1 H1 σ2 ρ2 F' H2 := xg2.slots o2
    have nO2 : ¬ Own σ2 ρ2 Dd := fun z => nO' (o2 _ z)
    have hD2 : H2 Dd = some (.lst acc) := sm _ _ hDd
    refine ⟨ρ2, F', _, R2.q, p2, fun r ρ3 p3 => ?_, fun c y ρ3 p3 => p3.elim⟩
    obtain ⟨b, eb⟩ := of_bl p3
    subst eb
    refine ⟨b, rfl, fun H3 F3 x3 R3 => ?_⟩
    have R3 := R3.unq
    have kp3 : Keeps C.K F' H2 F3 H3 := x3.keeps R2
    have nF3 : ¬ F3 Dd := fun z => by
      rcases x3.new _ z with z | z | z
      · exact nF' z
      · rw [hD2] at z; cases z
      · exact nO2 z
    have nO3 : ¬ Own σ2 ρ3 Dd := fun z => nO2 (x3.own _ z)
    have hD3 : H3 Dd = some (.lst acc) := x3.keep _ _ hD2 nO2
    have rl3 : RepL C.K F3 H3 acc accD := (rl.keep (keeps_same sm)).keep kp3
    have xg3 := xg2'.then x3
    cases b with
    | true =>
      simp only [if_true]
      refine ⟨ρ3, F3, _, R3.q, p3, fun r2 ρ4 p4 v H4 F4 x4 R4 rs => ?_, fun c y ρ4 p4 => p4.elim⟩
      obtain ⟨nb, hz, p5⟩ := p4
      obtain ⟨F5, x5, R5, rv5⟩ := RepS.fz R3.q x4 R4 rs
      have R5 := R5.unq
      have kp5 : Keeps C.K F3 H3 F5 H4 := x5.keeps R3
      have nF5 : ¬ F5 Dd := fun z => by
        rcases x5.new _ z with z | z | z
        · exact nF3 z
        · rw [hD3] at z; cases z
        · exact nO3 z
      have nO5 : ¬ Own σ2 ρ4 Dd := fun z => nO3 (x5.own _ z)
      have hD5 : H4 Dd = some (.lst acc) := x5.keep _ _ hD3 nO3
      have rl5 : RepL C.K F5 H4 acc accD := rl3.keep kp5
      have K6 : Keeps C.K F5 H4 F5 (upd H4 Dd (.lst (acc ++ [v]))) := keeps_upd nF5 hD5 (fun _ e => nomatch e) (fun _ _ e => nomatch e)
      refine ⟨acc, hD5, by rw [rl5.length]; exact hz, wipeD ρ4 vs, F5, acc ++ [v], accD ++ [r2.d], ?_, wiped, ?_, ((kp2.trans kp3).trans kp5).trans K6, upd_same, (rl5.keep K6).append (.cons (rv5.keep K6) .nil), nF5, fun z => nO5 (own_wipe (by rw [ew]; exact z)), p5⟩
      · rw [← ew]
        exact (R5.aside nF5 nO5 h0 hD5).wipe nb
      · exact ((xg3.then x5).slots (fun a z => own_wipe (by rw [ew]; exact z))).aside hD
    | false =>
      simp only [Bool.false_eq_true, if_false]
      obtain ⟨nb, p5⟩ := p3
      refine ⟨wipeD ρ3 vs, F3, acc, accD, ?_, wiped, xg3.slots (fun a z => own_wipe (by rw [ew]; exact z)), kp2.trans kp3, hD3, rl3, nF3, fun z => nO3 (own_wipe (by rw [ew]; exact z)), p5⟩
      rw [← ew]
      exact R3.wipe nb
  · have e : i = ds.length := by omega
    subst e
    rw [List.drop_length] at q'
    have R2 : Rel C F' H' σ (backD ρ1 ρ' vs) := R1.back st R' hw kp
    have x2 : Ext σ ρ1 (backD ρ1 ρ' vs) F1 H1 F' H' := (xg.slots fun a z => own_back st z).ext
    exact .inl ⟨fd'.1 (Nat.le_refl _), k1 _ _ q' _ H' F' (x.trans x2) R2 ⟨Dd, rfl, nF', .lst hDd rl, x.bk _ hD⟩⟩
end
section
variable {X : Cx} {C : Pr} {elt tg iter : Expr} {ifs : List Expr} {scope : Scope} {own : List (Str × Nat)} {pos spos py : Pos} {it : DA} {g : DG} {t : Option DE} {f : DE} {ts : List Nat}
theorem je_lc (hC : JC X C) (hc : X.calm = true) (hN : X.N.Nodup) (hi : PI X tg iter (lI C it)) (ok : BlkOk X.N X.env.scope scope own) (hts : ∀ j ∈ ts, j ∈ own.map (·.2))
    (hg : ∀ (s : Shared) (H : Hp) (A : Addr) (cl : List (Str × Addr)) (fp : List Addr), PG (X.blk s H scope (compEnvC scope cl A X.env) fp) tg (lG C.q ts g)) (ht : ∀ (s : Shared) (H : Hp) (A : Addr) (cl : List (Str × Addr)) (fp : List Addr), PTs (X.blk s H scope (compEnvC scope cl A X.env) fp) ifs (lTT C.q t))
    (he : ∀ (s : Shared) (H : Hp) (A : Addr) (cl : List (Str × Addr)) (fp : List Addr), PE (X.blk s H scope (compEnvC scope cl A X.env) fp) elt (lE C.q f)) (hs : ∀ x, foldedSetIterable iter X.env x = pure x := by intro _; rfl) :
    PE X (.ListComp elt [⟨tg, iter, ifs, 0⟩] scope pos) (lE C (dLc it (own.map (·.2)) g t f)) :=
  PE.imp (pe_lc hc hN hi ok hg ht he hs) fun _ _ _ h => en_lc hts h
theorem jc_blk (hC : JC X C) {s : Shared} {H : Hp} {A : Addr} {cl : List (Str × Addr)} {fp : List Addr} : JC (X.blk s H scope (compEnvC scope cl A X.env) fp) C.q := ⟨hC.k, takes0⟩
theorem js_setLc {i : Nat} {y : Str} (hC : JC X C) (hc : X.calm = true) (hN : X.N.Nodup) (hy : X.N[i]? = some y) (hyl : X.env.scope.names.lookup y = some .local)
    (hsw : swapsWith (.ListComp elt [⟨tg, iter, ifs, 0⟩] scope pos) (some (.Name y py)) spos.line X.env = pure true) (hi : PI X tg iter (lI C it)) (ok : BlkOk X.N X.env.scope scope own) (hts : ∀ j ∈ ts, j ∈ own.map (·.2))
    (hg : ∀ (s : Shared) (H : Hp) (A : Addr) (cl : List (Str × Addr)) (fp : List Addr), PG (X.blk s H scope (compEnvC scope cl A X.env) fp) tg (lG C.q ts g)) (ht : ∀ (s : Shared) (H : Hp) (A : Addr) (cl : List (Str × Addr)) (fp : List Addr), PTs (X.blk s H scope (compEnvC scope cl A X.env) fp) ifs (lTT C.q t))
    (he : ∀ (s : Shared) (H : Hp) (A : Addr) (cl : List (Str × Addr)) (fp : List Addr), PE (X.blk s H scope (compEnvC scope cl A X.env) fp) elt (lE C.q f)) (hs : ∀ x, foldedSetIterable iter X.env x = pure x := by intro _; rfl) :
    PS X (.Assign [.Name y py] (.ListComp elt [⟨tg, iter, ifs, 0⟩] scope pos) spos) (lS C (dSet i (dLc it (own.map (·.2)) g t f))) :=
  PS.imp (ps_setLc hc hN hy hyl hsw hi ok hg ht he hs) fun Dn σ H ⟨ρ, F, P, R, hf, k6⟩ => by
    refine en_lc hts (sS R hf k6 fun r ρ1 v H1 F1 x R1 rs ⟨hn, q⟩ => ?_)
    exact k6.nx _ q _ H1 F1 (x.keeps R) (R1.put hn rs (fun a z => R.h0 z) fun a z => R.noown x z)
end
end Ow

set_option Elab.async false
set_option linter.all false
set_option maxRecDepth 100000
set_option maxHeartbeats 2000000
namespace Ow
open PySem PySem.Spec L2
set_option autoImplicit false

/-! ### two clauses -/
def dLc2Go (vs vs1 : List Nat) (g : DG) (t : Option DE) (it1 : DA) (g1 : DG) (t1 : Option DE) (f : DE) : List D → List D → Env → (O → Env → Prop) → Prop
  | [], acc, ρ, P => P (.ok (.own (.lst acc))) ρ
  | d :: ds, acc, ρ, P => g d ρ fun ρ1 => dTT t ρ1 fun o ρ2 => match o with
    | .ok r => onB r (it1 ρ2 fun ao ρ3 => match ao with
      | .ok es => nborL ρ3 vs1 ∧ dLcGo vs1 g1 t1 f es acc (wipeD ρ3 vs1) fun o ρ4 => ∀ acc', o = .ok (.own (.lst acc')) → nborL ρ4 vs ∧ dLc2Go vs vs1 g t it1 g1 t1 f ds acc' (wipeD ρ4 vs) P
      | .ex _ _ => False) (nborL ρ2 vs ∧ dLc2Go vs vs1 g t it1 g1 t1 f ds acc (wipeD ρ2 vs) P)
    | .ex _ _ => False
def dLc2 (it : DA) (vs vs1 : List Nat) (g : DG) (t : Option DE) (it1 : DA) (g1 : DG) (t1 : Option DE) (f : DE) : DE := fun ρ P => it ρ fun ao ρ1 => match ao with
  | .ok ds => still ρ1 vs ∧ dLc2Go vs vs1 g t it1 g1 t1 f ds [] (wipeD ρ1 vs) fun o ρ2 => P o (backD ρ1 ρ2 vs)
  | .ex c x => P (.ex c x) ρ1
section
variable {C : Pr}
theorem en_lc2 {it it1 : DA} {g g1 : DG} {t t1 : Option DE} {f : DE} {ts ts1 vs vs1 : List Nat} {σ : L2.St} {H : Hp} {Q : VK} (hts : ∀ j ∈ ts, j ∈ vs) (hts1 : ∀ j ∈ ts1, j ∈ vs1) (hv1 : ∀ j ∈ vs1, j ∈ vs) (h : lE C (dLc2 it vs vs1 g t it1 g1 t1 f) σ H Q) :
    tLc2 (lI C it) (lG C.q ts g) (lTT C.q t) (lI C.q it1) (lG C.q ts1 g1) (lTT C.q t1) (lE C.q f) vs vs1 σ H Q := by
  obtain ⟨ρ, F, P, R, hf, k1, k2⟩ := h
  refine ⟨ρ, F, _, R, hf, fun ds ρ1 q J H1 F1 x R1 fd => ?_, fun c y ρ1 q => k2 c y ρ1 q⟩
  obtain ⟨st, q⟩ := q
  intro Dd hD
  have nF : ¬ F1 Dd := fun z => by
    obtain ⟨o, ho⟩ := R1.trk _ z
    rw [hD] at ho
    cases ho
  have nO : ¬ Own σ ρ1 Dd := fun ⟨i, s, d, h1, h2, h3⟩ => by
    obtain ⟨b, e1, _, t, _⟩ := R1.mt i s d h1 h2
    rw [h3] at e1
    cases e1
    obtain ⟨o, ho, _⟩ := t.at_
    rw [hD] at ho
    cases ho
  have h0 : C.H0 Dd = none := R1.h0 hD
  have nb1 : nborL ρ1 vs := fun v hv d e => st v hv _ d e rfl
  have K0 : Keeps C.K F1 H1 F1 (upd H1 Dd (.lst [])) := keeps_same (same_new hD)
  refine ⟨fun i m H' => ∃ ρ' F' acc accD, Rel C F' H' (wipe σ vs) ρ' ∧ (∀ v ∈ vs, ∀ s, ρ'[v]? ≠ some (some s)) ∧ ExtG σ ρ1 F1 H1 (wipe σ vs) ρ' F' H' ∧ Keeps C.K F1 H1 F' H' ∧ H' Dd = some (.lst acc) ∧ RepL C.K F' H' acc accD ∧ ¬ F' Dd ∧ ¬ Own (wipe σ vs) ρ' Dd ∧
    dLc2Go vs vs1 g t it1 g1 t1 f (ds.drop i) accD ρ' (fun o ρ2 => P o (backD ρ1 ρ2 vs)) ∧ m = ds.length - i ∧ i ≤ ds.length, ⟨ds.length, wipeD ρ1 vs, F1, [], [], (R1.same (same_new hD)).wipe nb1, wiped, ⟨fun _ z => z, fun a o e n => same_new hD a o e, fun _ z => .inl z, fun a z => own_wipe z, fun a e => upd_bk a e⟩, K0, upd_same, .nil, nF, fun z => nO (own_wipe z), q, by simp, Nat.zero_le _⟩, ?_⟩
  rintro i m H' ⟨ρ', F', acc, accD, R', hw, xg, kp, hDd, rl, nF', nO', q', rfl, hi'⟩
  have fd' := fd F' H' kp i
  by_cases hlt : i < ds.length
  · obtain ⟨go, yl⟩ := fd'.2 hlt
    refine .inr ⟨go, fun H2 => ∃ ρ2 F2 acc2 acc2D, Rel C F2 H2 (wipe σ vs) ρ2 ∧ (∀ v ∈ vs, ∀ s, ρ2[v]? ≠ some (some s)) ∧ ExtG σ ρ1 F1 H1 (wipe σ vs) ρ2 F2 H2 ∧ Keeps C.K F1 H1 F2 H2 ∧ H2 Dd = some (.lst acc2) ∧ RepL C.K F2 H2 acc2 acc2D ∧ ¬ F2 Dd ∧ ¬ Own (wipe σ vs) ρ2 Dd ∧
      dLc2Go vs vs1 g t it1 g1 t1 f (ds.drop (i + 1)) acc2D ρ2 (fun o ρ2 => P o (backD ρ1 ρ2 vs)), fun H2 ⟨ρ2, F2, a2, a2D, z1, z2, z3, z4, z5, z6, z7, z8, z9⟩ => ⟨ds.length - (i + 1), by omega, ρ2, F2, a2, a2D, z1, z2, z3, z4, z5, z6, z7, z8, z9, rfl, hlt⟩, fun x' H2 y => ?_⟩
    obtain ⟨sm, d, hd, rv⟩ := yl x' H2 y
    rw [List.drop_eq_getElem_cons hlt] at q'
    have hd' : ds[i] = d := by
      rw [List.getElem?_eq_getElem hlt] at hd
      exact Option.some.inj hd
    rw [hd'] at q'
    have kp2 : Keeps C.K F1 H1 F' H2 := kp.trans (keeps_same sm)
    have xg2 : ExtG σ ρ1 F1 H1 (wipe σ vs) ρ' F' H2 := xg.then (Ext.same sm)
    refine ⟨ρ', F', d, _, (R'.same sm).q, rv, q', fun ρ2 p2 σ2 l2 s2 o2 R2 => ?_⟩
    have R2 := R2.unq
    have ew : wipe σ2 vs = wipe σ vs := by
      have e1 : wipe σ2 vs = wipe (wipe σ vs) vs := wipe_eq l2 fun j hj => s2 j fun z => hj (hts j z)
      rw [e1]
      exact wipe_eq (wipe_length _ _) fun j hj => wipe_get hj
    refine ⟨ew, lTT_in ?_⟩
    have xg2' : ExtG σ ρ1 F1 H1 σ2 ρ2 F' H2 := xg2.slots o2
    have nO2 : ¬ Own σ2 ρ2 Dd := fun z => nO' (o2 _ z)
    have hD2 : H2 Dd = some (.lst acc) := sm _ _ hDd
    refine ⟨ρ2, F', _, R2.q, p2, fun r ρ3 p3 => ?_, fun c y ρ3 p3 => p3.elim⟩
    obtain ⟨b, eb⟩ := of_bl p3
    subst eb
    refine ⟨b, rfl, fun H3 F3 x3 R3 => ?_⟩
    have R3 := R3.unq
    have kp3 : Keeps C.K F' H2 F3 H3 := x3.keeps R2
    have nF3 : ¬ F3 Dd := fun z => by
      rcases x3.new _ z with z | z | z
      · exact nF' z
      · rw [hD2] at z; cases z
      · exact nO2 z
    have nO3 : ¬ Own σ2 ρ3 Dd := fun z => nO2 (x3.own _ z)
    have hD3 : H3 Dd = some (.lst acc) := x3.keep _ _ hD2 nO2
    have rl3 : RepL C.K F3 H3 acc accD := (rl.keep (keeps_same sm)).keep kp3
    have xg3 := xg2'.then x3
    have kp3' := kp2.trans kp3
    cases b with
    | false =>
      simp only [Bool.false_eq_true, if_false]
      obtain ⟨nb, p5⟩ := p3
      refine ⟨wipeD ρ3 vs, F3, acc, accD, ?_, wiped, xg3.slots (fun a z => own_wipe (by rw [ew]; exact z)), kp3', hD3, rl3, nF3, fun z => nO3 (own_wipe (by rw [ew]; exact z)), p5⟩
      rw [← ew]
      exact R3.wipe nb
    | true =>
      simp only [if_true]
      refine ⟨ρ3, F3, _, R3.q, p3, fun es ρ4 p4 J1 H4 F4 x4 R4 fd1 => ?_, fun c y ρ4 p4 => p4.elim⟩
      have R4 := R4.unq
      obtain ⟨nb1', p4⟩ := p4
      have kp4 : Keeps C.K F3 H3 F4 H4 := x4.keeps R3
      have nF4 : ¬ F4 Dd := fun z => by
        rcases x4.new _ z with z | z | z
        · exact nF3 z
        · rw [hD3] at z; cases z
        · exact nO3 z
      have nO4 : ¬ Own σ2 ρ4 Dd := fun z => nO3 (x4.own _ z)
      have hD4 : H4 Dd = some (.lst acc) := x4.keep _ _ hD3 nO3
      have rl4 : RepL C.K F4 H4 acc accD := rl3.keep kp4
      have xg4 := xg3.then x4
      have kp4' := kp3'.trans kp4
      refine ⟨fun j k H' => ∃ ρ' F' acc accD, Rel C F' H' (wipe σ2 vs1) ρ' ∧ ExtG σ ρ1 F1 H1 (wipe σ2 vs1) ρ' F' H' ∧ Keeps C.K F4 H4 F' H' ∧ H' Dd = some (.lst acc) ∧ RepL C.K F' H' acc accD ∧ ¬ F' Dd ∧ ¬ Own (wipe σ2 vs1) ρ' Dd ∧
        dLcGo vs1 g1 t1 f (es.drop j) accD ρ' (fun o ρ4 => ∀ acc', o = .ok (.own (.lst acc')) → nborL ρ4 vs ∧ dLc2Go vs vs1 g t it1 g1 t1 f (ds.drop (i + 1)) acc' (wipeD ρ4 vs) (fun o ρ2 => P o (backD ρ1 ρ2 vs))) ∧ k = es.length - j ∧ j ≤ es.length,
        ⟨es.length, wipeD ρ4 vs1, F4, acc, accD, R4.wipe nb1', xg4.slots (fun a z => own_wipe z), .refl, hD4, rl4, nF4, fun z => nO4 (own_wipe z), p4, by simp, Nat.zero_le _⟩, ?_⟩
      rintro j k H5 ⟨ρ5, F5, acc5, accD5, R5, xg5, kp5, hD5, rl5, nF5, nO5, q5, rfl, hj⟩
      have fd5 := fd1 F5 H5 kp5 j
      by_cases hlt1 : j < es.length
      · obtain ⟨go1, yl1⟩ := fd5.2 hlt1
        refine .inr ⟨go1, fun H' => ∃ ρ' F' acc accD, Rel C F' H' (wipe σ2 vs1) ρ' ∧ ExtG σ ρ1 F1 H1 (wipe σ2 vs1) ρ' F' H' ∧ Keeps C.K F4 H4 F' H' ∧ H' Dd = some (.lst acc) ∧ RepL C.K F' H' acc accD ∧ ¬ F' Dd ∧ ¬ Own (wipe σ2 vs1) ρ' Dd ∧
          dLcGo vs1 g1 t1 f (es.drop (j + 1)) accD ρ' (fun o ρ4 => ∀ acc', o = .ok (.own (.lst acc')) → nborL ρ4 vs ∧ dLc2Go vs vs1 g t it1 g1 t1 f (ds.drop (i + 1)) acc' (wipeD ρ4 vs) (fun o ρ2 => P o (backD ρ1 ρ2 vs))),
          fun H2 ⟨ρ2, F2, a2, a2D, z1, z3, z4, z5, z6, z7, z8, z9⟩ => ⟨es.length - (j + 1), by omega, ρ2, F2, a2, a2D, z1, z3, z4, z5, z6, z7, z8, z9, rfl, hlt1⟩, fun x6 H6 y6 => ?_⟩
        obtain ⟨sm6, d6, hd6, rv6⟩ := yl1 x6 H6 y6
        rw [List.drop_eq_getElem_cons hlt1] at q5
        have hd6' : es[j] = d6 := by
          rw [List.getElem?_eq_getElem hlt1] at hd6
          exact Option.some.inj hd6
        rw [hd6'] at q5
        have xg6 : ExtG σ ρ1 F1 H1 (wipe σ2 vs1) ρ5 F5 H6 := xg5.then (Ext.same sm6)
        have kp6 : Keeps C.K F4 H4 F5 H6 := kp5.trans (keeps_same sm6)
        refine ⟨ρ5, F5, d6, _, (R5.same sm6).q, rv6, q5, fun ρ7 p7 σ7 l7 s7 o7 R7 => ?_⟩
        have R7 := R7.unq
        have ew7 : wipe σ7 vs1 = wipe σ2 vs1 := by
          have e1 : wipe σ7 vs1 = wipe (wipe σ2 vs1) vs1 := wipe_eq l7 fun j hj => s7 j fun z => hj (hts1 j z)
          rw [e1]
          exact wipe_eq (wipe_length _ _) fun j hj => wipe_get hj
        refine ⟨ew7, lTT_in ?_⟩
        have xg7 : ExtG σ ρ1 F1 H1 σ7 ρ7 F5 H6 := xg6.slots o7
        have nO7 : ¬ Own σ7 ρ7 Dd := fun z => nO5 (o7 _ z)
        have hD6 : H6 Dd = some (.lst acc5) := sm6 _ _ hD5
        refine ⟨ρ7, F5, _, R7.q, p7, fun r ρ8 p8 => ?_, fun c y ρ8 p8 => p8.elim⟩
        obtain ⟨b, eb⟩ := of_bl p8
        subst eb
        refine ⟨b, rfl, fun H8 F8 x8 R8 => ?_⟩
        have R8 := R8.unq
        have kp8 : Keeps C.K F5 H6 F8 H8 := x8.keeps R7
        have nF8 : ¬ F8 Dd := fun z => by
          rcases x8.new _ z with z | z | z
          · exact nF5 z
          · rw [hD6] at z; cases z
          · exact nO7 z
        have nO8 : ¬ Own σ7 ρ8 Dd := fun z => nO7 (x8.own _ z)
        have hD8 : H8 Dd = some (.lst acc5) := x8.keep _ _ hD6 nO7
        have rl8 : RepL C.K F8 H8 acc5 accD5 := (rl5.keep (keeps_same sm6)).keep kp8
        have xg8 := xg7.then x8
        cases b with
        | true =>
          simp only [if_true]
          refine ⟨ρ8, F8, _, R8.q, p8, fun r2 ρ9 p9 v H9 F9 x9 R9 rs => ?_, fun c y ρ9 p9 => p9.elim⟩
          obtain ⟨nb, hz, p9⟩ := p9
          obtain ⟨F10, x10, R10, rv10⟩ := RepS.fz R8.q x9 R9 rs
          have R10 := R10.unq
          have kp10 : Keeps C.K F8 H8 F10 H9 := x10.keeps R8
          have nF10 : ¬ F10 Dd := fun z => by
            rcases x10.new _ z with z | z | z
            · exact nF8 z
            · rw [hD8] at z; cases z
            · exact nO8 z
          have nO10 : ¬ Own σ7 ρ9 Dd := fun z => nO8 (x10.own _ z)
          have hD10 : H9 Dd = some (.lst acc5) := x10.keep _ _ hD8 nO8
          have rl10 : RepL C.K F10 H9 acc5 accD5 := rl8.keep kp10
          have K11 : Keeps C.K F10 H9 F10 (upd H9 Dd (.lst (acc5 ++ [v]))) := keeps_upd nF10 hD10 (fun _ e => nomatch e) (fun _ _ e => nomatch e)
          refine ⟨acc5, hD10, by rw [rl10.length]; exact hz, wipeD ρ9 vs1, F10, acc5 ++ [v], accD5 ++ [r2.d], ?_, ?_, ((kp6.trans kp8).trans kp10).trans K11, upd_same, (rl10.keep K11).append (.cons (rv10.keep K11) .nil), nF10, fun z => nO10 (own_wipe (by rw [ew7]; exact z)), p9⟩
          · rw [← ew7]
            exact (R10.aside nF10 nO10 h0 hD10).wipe nb
          · exact ((xg8.then x10).slots (fun a z => own_wipe (by rw [ew7]; exact z))).aside hD
        | false =>
          simp only [Bool.false_eq_true, if_false]
          obtain ⟨nb, p9⟩ := p8
          refine ⟨wipeD ρ8 vs1, F8, acc5, accD5, ?_, xg8.slots (fun a z => own_wipe (by rw [ew7]; exact z)), kp6.trans kp8, hD8, rl8, nF8, fun z => nO8 (own_wipe (by rw [ew7]; exact z)), p9⟩
          rw [← ew7]
          exact R8.wipe nb
      · have e : j = es.length := by omega
        subst e
        rw [List.drop_length] at q5
        obtain ⟨nb5, q5⟩ := q5 accD5 rfl
        have ew5 : wipe (wipe σ2 vs1) vs = wipe σ vs := by
          rw [← ew]
          exact wipe_eq (wipe_length _ _) fun j hj => wipe_get fun z => hj (hv1 j z)
        refine .inl ⟨fd5.1 (Nat.le_refl _), wipeD ρ5 vs, F5, acc5, accD5, ?_, wiped, xg5.slots (fun a z => own_wipe (by rw [ew5]; exact z)), kp4'.trans kp5, hD5, rl5, nF5, fun z => nO5 (own_wipe (by rw [ew5]; exact z)), q5⟩
        rw [← ew5]
        exact R5.wipe nb5
  · have e : i = ds.length := by omega
    subst e
    rw [List.drop_length] at q'
    have R2 : Rel C F' H' σ (backD ρ1 ρ' vs) := R1.back st R' hw kp
    have x2 : Ext σ ρ1 (backD ρ1 ρ' vs) F1 H1 F' H' := (xg.slots fun a z => own_back st z).ext
    exact .inl ⟨fd'.1 (Nat.le_refl _), k1 _ _ q' _ H' F' (x.trans x2) R2 ⟨Dd, rfl, nF', .lst hDd rl, x.bk _ hD⟩⟩
end
section
variable {X : Cx} {C : Pr} {elt tg iter tg1 iter1 : Expr} {ifs ifs1 : List Expr} {scope : Scope} {own : List (Str × Nat)} {vs1 : List Nat} {pos spos py : Pos} {it it1 : DA} {g g1 : DG} {t t1 : Option DE} {f : DE} {ts ts1 : List Nat}
theorem je_lc2 (hC : JC X C) (hc : X.calm = true) (hN : X.N.Nodup) (hi : PI X tg iter (lI C it)) (ok : BlkOk X.N X.env.scope scope own) (hv : ∀ i ∈ vs1, i ∈ own.map (·.2)) (hts : ∀ j ∈ ts, j ∈ own.map (·.2)) (hts1 : ∀ j ∈ ts1, j ∈ vs1)
    (hg : ∀ (s : Shared) (H : Hp) (A : Addr) (cl : List (Str × Addr)) (fp : List Addr), PG (X.blk s H scope (compEnvC scope cl A X.env) fp) tg (lG C.q ts g)) (ht : ∀ (s : Shared) (H : Hp) (A : Addr) (cl : List (Str × Addr)) (fp : List Addr), PTs (X.blk s H scope (compEnvC scope cl A X.env) fp) ifs (lTT C.q t))
    (hi1 : ∀ (s : Shared) (H : Hp) (A : Addr) (cl : List (Str × Addr)) (fp : List Addr), PI (X.blk s H scope (compEnvC scope cl A X.env) fp) tg1 iter1 (lI C.q it1))
    (hg1 : ∀ (s : Shared) (H : Hp) (A : Addr) (cl : List (Str × Addr)) (fp : List Addr), PG (X.blk s H scope (compEnvC scope cl A X.env) fp) tg1 (lG C.q ts1 g1)) (ht1 : ∀ (s : Shared) (H : Hp) (A : Addr) (cl : List (Str × Addr)) (fp : List Addr), PTs (X.blk s H scope (compEnvC scope cl A X.env) fp) ifs1 (lTT C.q t1))
    (he : ∀ (s : Shared) (H : Hp) (A : Addr) (cl : List (Str × Addr)) (fp : List Addr), PE (X.blk s H scope (compEnvC scope cl A X.env) fp) elt (lE C.q f)) (hs : ∀ x, foldedSetIterable iter X.env x = pure x := by intro _; rfl) (hs1 : ∀ env x, foldedSetIterable iter1 env x = pure x := by intro _ _; rfl) :
    PE X (.ListComp elt [⟨tg, iter, ifs, 0⟩, ⟨tg1, iter1, ifs1, 0⟩] scope pos) (lE C (dLc2 it (own.map (·.2)) vs1 g t it1 g1 t1 f)) :=
  PE.imp (pe_lc2 hc hN hi ok hv hg ht hi1 hg1 ht1 he hs hs1) fun _ _ _ h => en_lc2 hts hts1 hv h
end
end Ow

set_option Elab.async false
set_option linter.all false
set_option maxRecDepth 100000
set_option maxHeartbeats 2000000
namespace Ow
open PySem PySem.Spec L2
set_option autoImplicit false

/-! ### more operations -/
theorem OpR.or2 {X : Cx} {f : Value → Value → Sem Value} {r1 r2 : R2} (h1 : OpR X f r1) (h2 : OpR X f r2) : OpR X f (fun x y H Q => r1 x y H Q ∨ r2 x y H Q) := h1.or h2
theorem op_mulS {X : Cx} : OpR X (binaryOp .Mult) (fun x y H Q => ∃ (z : Str) (n : Int), x = .str z ∧ y = .int n ∧ MulOk z n ∧ Q (.str (Txt.mul z n)) H) := by
  intro pins s σ H x y v u Q I rx ry h
  obtain ⟨z, n, rfl, rfl, hok, q⟩ := h
  obtain ⟨t, rfl⟩ := rx
  obtain ⟨t', rfl⟩ := ry
  exact SB.mul hok fun t' k => ⟨.str (Txt.mul z n), H, I.tok _, ⟨_, rfl⟩, q⟩
/-- + - * // % **: sums of texts, lists, tuples; a text some times -/
def dAdd2 : Op2
  | .tup a, .tup b, P => (a ≠ [] ∧ b ≠ [] ∧ a.length + b.length ≤ sizeLine) ∧ P (.frz (.tup (a ++ b)))
  | .arr a, .lst b, P => a.length + b.length ≤ sizeLine ∧ P (.own (.lst (a ++ b)))
  | x, y, P => dAdd x y P
def dMul2 : Op2
  | .str z, .int n, P => MulOk z n ∧ P (.frz (.str (Txt.mul z n)))
  | x, y, P => dMul x y P
theorem o_mul2 {X : Cx} : OpR X (binaryOp .Mult) (rO2 X.K dMul2) := by
  refine oimp (op_mulS.or o_mul) ?_
  rintro x y H Q ⟨F, d, e, P, rx, ry, h, k⟩
  unfold dMul2 at h
  split at h
  · have e1 := rx.str
    have e2 := ry.int
    subst e1 e2
    exact .inl ⟨_, _, rfl, rfl, h.1, k _ h.2 _ H (Same.refl H) (.str _)⟩
  · exact .inr ⟨F, d, e, P, rx, ry, h, k⟩
/-! order of tuples, as data -/
theorem Rp1.reads {X : Cx} {pins : List (Addr × Obj)} {s : Shared} {σ : L2.St} {H : Hp} {F : Addr → Prop} {v : V} {u : Value} {d : D} (I : Inv X pins σ H s) (r : Rp1 X.K F H v d) (p : d.pur = true) (rv : RelV v u) : ∃ as, Reads s.heap u d.py as :=
  Dp.reads I d.py v u (r.dp p) rv
def CmpD (d e : D) : Prop := d.pur = true ∧ e.pur = true ∧ PySem.W.alike d.py e.py = true ∧ d.py ≠ .none ∧ min d.py.depth e.py.depth < 64
def dLeD : Op2 := fun x y P => match x, y with
  | .tup _, .tup _ => CmpD x y ∧ P (.frz (.bl (!PySem.W.dataLt y.py x.py)))
  | _, _ => dLe x y P
def dLtD : Op2 := fun x y P => match x, y with
  | .tup _, .tup _ => CmpD x y ∧ P (.frz (.bl (PySem.W.dataLt x.py y.py)))
  | _, _ => dLt x y P
theorem o_leD {X : Cx} (hu : X.A.units + 64 < cLine) : OpR X (compareOp .LtE) (rO2 X.K dLeD) := by
  intro pins s σ H x y v u Q I rx ry h
  obtain ⟨F, d, e, P, r1, r2, h, k⟩ := h
  unfold dLeD at h
  split at h
  · obtain ⟨⟨p1, p2, al, nn, dp⟩, h⟩ := h
    obtain ⟨as, q1⟩ := r1.reads I p1 rx
    obtain ⟨bs, q2⟩ := r2.reads I p2 ry
    exact PySem.W.le_data q1 q2 al nn (by omega) ⟨.bl _, H, I, rfl, k _ h _ H (Same.refl H) (.bl _)⟩
  · exact o_le pins s σ H x y v u Q I rx ry ⟨F, d, e, P, r1, r2, h, k⟩
theorem o_ltD {X : Cx} (hu : X.A.units + 64 < cLine) : OpR X (compareOp .Lt) (rO2 X.K dLtD) := by
  intro pins s σ H x y v u Q I rx ry h
  obtain ⟨F, d, e, P, r1, r2, h, k⟩ := h
  unfold dLtD at h
  split at h
  · obtain ⟨⟨p1, p2, al, nn, dp⟩, h⟩ := h
    obtain ⟨as, q1⟩ := r1.reads I p1 rx
    obtain ⟨bs, q2⟩ := r2.reads I p2 ry
    exact PySem.W.lt_data q1 q2 al nn (by omega) ⟨.bl _, H, I, rfl, k _ h _ H (Same.refl H) (.bl _)⟩
  · exact o_lt pins s σ H x y v u Q I rx ry ⟨F, d, e, P, r1, r2, h, k⟩

/-! in -/
def D.els : D → Option (List D)
  | .lst l => some l
  | .arr l => some l
  | .tup l => some l
  | _ => none
def D.scl : D → Bool
  | .non => true
  | .bl _ => true
  | .int _ => true
  | .str _ => true
  | _ => false
/-- a text in a text -/
def subIn (a z : Str) : Bool := if a.cps.size = 1 then decide (a.cps.toList.headD 0 ∈ z.cps.toList) else !(Builtin.Str.occurrences z a 0 z.length 1).isEmpty
theorem str_one {a : Str} (h : a.cps.size = 1) : a = ⟨#[a.cps.toList.headD 0]⟩ := by
  obtain ⟨⟨l⟩⟩ := a
  match l, h with
  | [c], _ => rfl
/-- the membership's answer -/
def inAns : D → D → (Bool → Prop) → Prop := fun x y P => match x, y with
  | .str a, .str z => P (subIn a z)
  | d, .lst l => (d.pur = true ∧ (D.lst l).pur = true ∧ SeqAt.shaped d.py = true ∧ SeqAt.shaped (D.lst l).py = true) ∧ P (l.any fun z => PyData.eqv z.py d.py)
  | d, .arr l => (d.pur = true ∧ (D.lst l).pur = true ∧ SeqAt.shaped d.py = true ∧ SeqAt.shaped (D.lst l).py = true) ∧ P (l.any fun z => PyData.eqv z.py d.py)
  | _, _ => False
theorem pyL_map : ∀ l : List D, pyL l = l.map D.py
  | [] => by rw [pyL]; rfl
  | d :: l => by rw [pyL, pyL_map l]; rfl
theorem any_py {l : List D} {d : PyData} : ((pyL l).any fun z => PyData.eqv z d) = l.any fun z => PyData.eqv z.py d := by
  rw [pyL_map, List.any_map]; rfl
def dIn (neg : Bool) : Op2 := fun x y P => inAns x y fun b => P (.frz (.bl (if neg then !b else b)))
theorem in_core {X : Cx} {op : CmpOp} {neg : Bool}
    (h1 : OpR X (compareOp op) (fun x y H Q => ∃ (c : Nat) (z : Str), x = .str ⟨#[c]⟩ ∧ y = .str z ∧ Q (.bl (if neg then !decide (c ∈ z.cps.toList) else decide (c ∈ z.cps.toList))) H))
    (h2 : OpR X (compareOp op) (fun x y H Q => ∃ i j, x = .str i ∧ y = .str j ∧ Q (.bl (if neg then !(!(Builtin.Str.occurrences j i 0 j.length 1).isEmpty) else !(Builtin.Str.occurrences j i 0 j.length 1).isEmpty)) H))
    (h3 : OpR X (compareOp op) (fun x y H Q => ∃ d ds, Dp X.K H x d ∧ Dp X.K H y (.list ds) ∧ SeqAt.shaped d = true ∧ SeqAt.shaped (.list ds) = true ∧ Q (.bl (if neg then !(ds.any fun z => PyData.eqv z d) else (ds.any fun z => PyData.eqv z d))) H)) :
    OpR X (compareOp op) (rO2 X.K (dIn neg)) := by
  refine oimp (h1.or (h2.or h3)) ?_
  rintro x y H Q ⟨F, d, e, P, rx, ry, h, k⟩
  unfold dIn inAns at h
  split at h
  · rename_i a z
    have e1 := rx.str
    have e2 := ry.str
    subst e1 e2
    unfold subIn at h
    by_cases hs : a.cps.size = 1
    · rw [if_pos hs] at h
      exact .inl ⟨_, _, congrArg V.str (str_one hs), rfl, k _ h _ H (Same.refl H) (.bl _)⟩
    · rw [if_neg hs] at h
      exact .inr (.inl ⟨_, _, rfl, rfl, k _ h _ H (Same.refl H) (.bl _)⟩)
  · obtain ⟨⟨p1, p2, s1, s2⟩, h⟩ := h
    refine .inr (.inr ⟨_, _, rx.dp p1, ?_, s1, s2, ?_⟩)
    · have z := ry.dp p2
      rw [D.py] at z
      exact z
    · rw [any_py]
      exact k _ h _ H (Same.refl H) (.bl _)
  · obtain ⟨⟨p1, p2, s1, s2⟩, h⟩ := h
    refine .inr (.inr ⟨_, _, rx.dp p1, ?_, s1, s2, ?_⟩)
    · rw [D.pur] at p2
      have z := Rp1.dp ry (by rw [D.pur]; exact p2)
      rw [D.py] at z
      exact z
    · rw [any_py]
      exact k _ h _ H (Same.refl H) (.bl _)
  · exact h.elim
theorem o_in {X : Cx} (hu : X.A.units + 65 < cLine) : OpR X (compareOp .In) (rO2 X.K (dIn false)) := in_core op_in_sign op_in_str (op_inD hu)
theorem o_notin {X : Cx} (hu : X.A.units + 65 < cLine) : OpR X (compareOp .NotIn) (rO2 X.K (dIn true)) := in_core op_notIn_sign op_notin_str (op_notInD hu)

/-! ### subscripts -/
theorem RepL.atI {K : PySem.W.Frag} {F : Addr → Prop} {H : Hp} {xs : List V} {ds : List D} {i : Int} {d : D} (r : RepL K F H xs ds) (h : L2.atI ds i = some d) : ∃ v, L2.atI xs i = some v ∧ Rep K F H v d := by
  unfold L2.atI at h ⊢
  rw [r.length]
  cases e : ixN ds.length i with
  | none => rw [e] at h; cases h
  | some j =>
    rw [e] at h
    obtain ⟨v, h1, h2⟩ := r.get (i := j) h
    exact ⟨v, h1, h2⟩
def dIx : Op2 := fun x y P => match x, y with
  | .lst l, .int i => ∃ d, atI l i = some d ∧ P (.frz d)
  | .arr l, .int i => ∃ d, atI l i = some d ∧ P (.frz d)
  | .tup l, .int i => ∃ d, atI l i = some d ∧ P (.frz d)
  | .str z, .int i => z.length ≤ sizeLine ∧ ∃ c, atI z.cps.toList i = some c ∧ P (.frz (.str ⟨#[c]⟩))
  | _, _ => False
theorem i_ix {X : Cx} : IxR X (rO2 X.K dIx) := by
  refine iimp ix_seq ?_
  rintro x y H Q ⟨F, d, e, P, rx, ry, h, k⟩
  unfold dIx at h
  split at h
  · obtain ⟨z, hz, h⟩ := h
    obtain ⟨a, xs, rfl, hx, r1⟩ := rx.lst
    have e2 := ry.int
    subst e2
    obtain ⟨v, hv, rv⟩ := r1.atI hz
    exact .inl ⟨a, xs, _, v, rfl, rfl, .of hx, hv, k _ h _ H (Same.refl H) rv⟩
  · obtain ⟨z, hz, h⟩ := h
    obtain ⟨a, xs, rfl, hx, r1⟩ := rx.arr
    have e2 := ry.int
    subst e2
    obtain ⟨v, hv, rv⟩ := r1.atI hz
    exact .inl ⟨a, xs, _, v, rfl, rfl, hx, hv, k _ h _ H (Same.refl H) rv⟩
  · obtain ⟨z, hz, h⟩ := h
    obtain ⟨a, xs, rfl, hx, r1⟩ := rx.tup
    have e2 := ry.int
    subst e2
    obtain ⟨v, hv, rv⟩ := r1.atI hz
    exact .inr (.inl ⟨a, xs, _, v, rfl, rfl, hx, hv, k _ h _ H (Same.refl H) rv⟩)
  · obtain ⟨hl, c, hc, h⟩ := h
    have e1 := rx.str
    have e2 := ry.int
    subst e1 e2
    exact .inr (.inr ⟨_, _, c, rfl, rfl, hl, hc, k _ h _ H (Same.refl H) (.str _)⟩)
  · exact h.elim
/-- xs[..] of a name: the slot is read behind the index -/
def dIxV (i : Nat) (o : Op2) (g : DE) : DE := fun ρ P => (∃ s, ρ[i]? = some (some s)) ∧ dThen g (fun r ρ1 P => ∃ s, ρ1[i]? = some (some s) ∧ o s.d r.d fun t => P (.ok t) ρ1) ρ P
section
variable {X : Cx} {C : Pr} {e a b : Expr} {f fa fb g : DE} {pos p2 : Pos} {i : Nat}
theorem en_ixV (hC : JC X C) {o : Op2} {σ : L2.St} {H : Hp} {Q : VK} (h : lE C (dIxV i o g) σ H Q) : tOp (rO2 X.K o) (tVar i) (lE C g) σ H Q := by
  obtain ⟨ρ, F, P, R, ⟨⟨s0, h0⟩, hf⟩, k1, k2⟩ := h
  obtain ⟨v, hv, _⟩ := R.rp1 h0
  refine ⟨v, hv, sE R hf k2 fun r ρ1 w H1 F1 x1 R1 rw' ⟨s, hs, q⟩ => ?_⟩
  obtain ⟨v', hv', rv⟩ := R1.rp1 hs
  rw [hv] at hv'
  cases hv'
  rw [← hC.k]
  exact ⟨F1, s.d, r.d, _, rv, .inl rw', q, fun s ps u H' sm rn => k1 s ρ1 ps u H' F1 (x1.trans (Ext.same sm)) (R1.same sm) ((rn.reps R1.trk).bk x1.bk)⟩
theorem je_ixV (hC : JC X C) (ha : PE X a (tVar i)) (hb : PE X b (lE C g)) (hs : PlainIx b := by intro _ _; rfl) : PE X (.Subscript a b pos) (lE C (dIxV i dIx g)) :=
  PE.imp (pe_ix i_ix ha hb hs) fun _ _ _ h => en_ixV hC h
theorem je_ix (hC : JC X C) (ha : PE X a (lE C fa)) (hb : PE X b (lV C fb)) (hs : PlainIx b := by intro _ _; rfl) : PE X (.Subscript a b pos) (lE C (dOp dIx fa fb)) :=
  PE.imp (pe_ix i_ix ha hb hs) fun _ _ _ h => en_op hC h
/-! slices -/
abbrev DO := Env → (Option (Option Int) → Env → Prop) → Prop
def oNo : DE := dC .non
/-- a bound of a slice: none, or an int -/
def D.part : D → Option (Option Int)
  | .non => some none
  | .int i => some (some i)
  | _ => none
def lO (C : Pr) (f : DE) : TO := fun σ H Q => ∃ (ρ : Env) (F : Addr → Prop) (P : O → Env → Prop), Rel C F H σ ρ ∧ f ρ P ∧
  (∀ r ρ', P (.ok r) ρ' → ∃ o, r.d.part = some o ∧ ∀ H' F', Ext σ ρ ρ' F H F' H' → Rel C F' H' σ ρ' → Q o H') ∧ exP C σ ρ F H P
theorem jo_none : PO X none (lO C oNo) := ⟨fun pins s σ H Q I ⟨ρ, F, P, R, hf, k1, k2⟩ => by
  obtain ⟨o, e, q⟩ := k1 _ _ hf
  cases e
  exact po_none.run pins s σ H Q I (q H F Ext.refl R)⟩
theorem jo_some (h : PE X e (lE C f)) : PO X (some e) (lO C (dThen f fun r ρ P => match r.d with | .int i => P (.ok (.frz (.int i))) ρ | _ => False)) :=
  ⟨fun pins s σ H Q I ⟨ρ, F, P, R, hf, k1, k2⟩ => (po_some h).run pins s σ H Q I (by
    refine sE R hf k2 fun r ρ1 v H1 F1 x1 R1 rv q => ?_
    split at q
    · rename_i i e
      obtain ⟨o, e', q'⟩ := k1 _ _ q
      cases e'
      rw [e] at rv
      cases rv
      exact ⟨i, rfl, q' H1 F1 x1 R1⟩
    · exact q.elim)⟩
def cutD (xs : List D) (lo hi : Option Int) : List D := (xs.drop (HT.sIx xs.length 0 lo)).take (HT.sIx xs.length xs.length hi - HT.sIx xs.length 0 lo)
def dCut (x : D) (lo hi : Option Int) (P : SV → Prop) : Prop := match x with
  | .lst l => P (.own (.lst (cutD l lo hi)))
  | .arr l => P (.own (.lst (cutD l lo hi)))
  | .tup l => ¬ (HT.sIx l.length 0 lo = 0 ∧ HT.sIx l.length l.length hi = l.length) ∧ P (.frz (.tup (cutD l lo hi)))
  | .str z => z.length ≤ sizeLine ∧ P (.frz (.str (cutS z lo hi)))
  | _ => False
def dSl (f lo hi : DE) : DE := dThen f fun r => dThen lo fun l ρ1 P => ∃ a, l.d.part = some a ∧ dThen hi (fun h ρ P => ∃ b, h.d.part = some b ∧ dCut r.d a b fun s => P (.ok s) ρ) ρ1 P
theorem sO {k : SV → Env → (O → Env → Prop) → Prop} {σ : L2.St} {H : Hp} {T : Option Int → Hp → Prop} {ρ : Env} {F : Addr → Prop} {P : O → Env → Prop} (R : Rel C F H σ ρ) (q : dThen f k ρ P) (k2 : exP C σ ρ F H P)
    (hp : ∀ r ρ1, k r ρ1 P → ∃ o, r.d.part = some o) (i : ∀ o r ρ1 H1 F1, Ext σ ρ ρ1 F H F1 H1 → Rel C F1 H1 σ ρ1 → r.d.part = some o → k r ρ1 P → T o H1) : lO C f σ H T :=
  ⟨ρ, F, _, R, q, fun r ρ1 p => let ⟨o, e⟩ := hp r ρ1 p; ⟨o, e, fun H1 F1 x R1 => i o r ρ1 H1 F1 x R1 e p⟩, fun c y ρ1 p => k2 c y ρ1 p⟩
theorem RepL.cut {K : PySem.W.Frag} {F : Addr → Prop} {H : Hp} {xs : List V} {ds : List D} {lo hi : Option Int} (r : RepL K F H xs ds) : RepL K F H (cutV xs lo hi) (cutD ds lo hi) := by
  unfold cutV cutD
  rw [r.length]
  exact (r.drop _).take _
theorem je_sl (hC : JC X C) {lo hi : Option Expr} {fl fh : DE} (he : PE X e (lE C f)) (hl : PO X lo (lO C fl)) (hh : PO X hi (lO C fh)) : PE X (.Subscript e (.Slice lo hi none p2) pos) (lE C (dSl f fl fh)) :=
  PE.imp (pe_slice ((sl_list (X := X)).or ((sl_tup (X := X)).or (sl_str (X := X)))) he hl hh) fun σ H Q ⟨ρ, F, P, R, hf, k1, k2⟩ => by
    refine sE R hf k2 fun r ρ1 v H1 F1 x1 R1 rv q1 => ?_
    refine sO R1 q1 (exP.bk k2 x1) (fun l ρ2 z => let ⟨a, e, _⟩ := z; ⟨a, e⟩) fun o l ρ2 H2 F2 x2 R2 e2 ⟨a, ea, q2⟩ => ?_
    rw [e2] at ea
    cases ea
    refine sO R2 q2 (exP.bk k2 (x1.trans x2)) (fun l ρ2 z => let ⟨a, e, _⟩ := z; ⟨a, e⟩) fun o' h ρ3 H3 F3 x3 R3 e3 ⟨b, eb, q3⟩ => ?_
    rw [e3] at eb
    cases eb
    have rv3 := (rv.keep (x2.keeps R1)).keep (x3.keeps R2)
    have x13 := (x1.trans x2).trans x3
    rw [← hC.k]
    unfold dCut at q3
    split at q3
    · rename_i l0 e0
      rw [e0] at rv3
      cases rv3 with
      | lst f s rr =>
        refine .inl ⟨_, _, rfl, .of s, fun p hp => ?_⟩
        have rn : RepN C.K F3 (upd H3 p (.lst _)) H3 (.ref p) (.own (.lst (cutD l0 o o'))) := ⟨p, rfl, .lst upd_same (rr.cut.keep (keeps_same (same_new hp))), hp⟩
        exact k1 _ _ q3 _ _ F3 (x13.trans (Ext.same (same_new hp))) (R3.same (same_new hp)) ((rn.reps R3.trk).bk x13.bk)
    · rename_i l0 e0
      rw [e0] at rv3
      cases rv3 with
      | arr s rr =>
        refine .inl ⟨_, _, rfl, s.sq, fun p hp => ?_⟩
        have rn : RepN C.K F3 (upd H3 p (.lst _)) H3 (.ref p) (.own (.lst (cutD l0 o o'))) := ⟨p, rfl, .lst upd_same (rr.cut.keep (keeps_same (same_new hp))), hp⟩
        exact k1 _ _ q3 _ _ F3 (x13.trans (Ext.same (same_new hp))) (R3.same (same_new hp)) ((rn.reps R3.trk).bk x13.bk)
    · rename_i l0 e0
      rw [e0] at rv3
      cases rv3 with
      | tup s rr =>
        refine .inr (.inl ⟨_, _, rfl, s, by rw [rr.length]; exact q3.1, fun p hp => ?_⟩)
        exact k1 _ _ q3.2 _ _ F3 (x13.trans (Ext.same (same_new hp))) (R3.same (same_new hp)) (.tup (.of upd_same) (rr.cut.keep (keeps_same (same_new hp))))
    · rename_i z e0
      rw [e0] at rv3
      cases rv3
      exact .inr (.inr ⟨_, rfl, q3.1, k1 _ _ q3.2 _ _ F3 x13 R3 (.str _)⟩)
    · exact q3.elim
end
end Ow

set_option Elab.async false
set_option linter.all false
set_option maxRecDepth 100000
set_option maxHeartbeats 2000000
namespace Ow
open PySem PySem.Spec L2
set_option autoImplicit false

/-! ### sorted -/
/-- the list sorted by the order of data -/
def srtD (l : List D) : List D := l.mergeSort (PySem.W.dataLe false D.py)
def SrtOk (l : List D) : Prop := purL l = true ∧ PySem.W.AllAlike (l.map D.py) ∧ PySem.W.Sortable (l.map D.py) ∧ l.length ≤ sizeLine ∧ ∀ d ∈ l, d.py.depth < 64
def dSorted : OpN := fun ds P => match ds with
  | [.lst l] => SrtOk l ∧ P (.own (.lst (srtD l)))
  | [.arr l] => SrtOk l ∧ P (.own (.lst (srtD l)))
  | [.str x] => x.cps.size ≤ sizeLine ∧ P (.own (.lst (srtD (signsOf x))))
  | _ => False
section
variable {K : PySem.W.Frag} {F : Addr → Prop} {H : Hp}
theorem RepL.each {vs : List Value} : ∀ {xs : List V} {ds : List D} {vs : List Value}, RepL K F H xs ds → Vals xs vs → PySem.W.EachIs (fun v d => ∃ x, RelV x v ∧ Rep K F H x d) vs ds
  | _, _, _, .nil, .nil => .nil
  | _, _, _, .cons r t, .cons q u => .cons ⟨_, q, r⟩ (RepL.each (vs := vs) t u)
theorem each_repL : ∀ {ds : List D} {vs : List Value}, PySem.W.EachIs (fun v d => ∃ x, RelV x v ∧ Rep K F H x d) vs ds → ∃ xs, Vals xs vs ∧ RepL K F H xs ds
  | _, _, .nil => ⟨[], .nil, .nil⟩
  | _, _, .cons ⟨x, q, r⟩ t => let ⟨xs, a, b⟩ := each_repL t; ⟨x :: xs, .cons q a, .cons r b⟩
theorem purL_mem : ∀ {l : List D}, purL l = true → ∀ d ∈ l, d.pur = true
  | d :: l, h, e, he => by
    rw [purL, Bool.and_eq_true] at h
    rcases List.mem_cons.mp he with rfl | he
    · exact h.1
    · exact purL_mem h.2 e he
  | [], _, e, he => by cases he
theorem EachIs.mem {α β : Type} {R S : α → β → Prop} : ∀ {as : List α} {bs : List β}, PySem.W.EachIs R as bs → (∀ a, ∀ b ∈ bs, R a b → S a b) → PySem.W.EachIs S as bs
  | _, _, .nil, _ => .nil
  | _, _, .cons r t, h => .cons (h _ _ (List.mem_cons_self) r) (EachIs.mem t fun a b hb => h a b (List.mem_cons_of_mem _ hb))
end
section
variable {X : Cx} {pins : List (Addr × Obj)} {s : Shared} {σ : L2.St} {H : Hp} {F : Addr → Prop} {Q : VK}
theorem sorted_list {a : Addr} {xs : List V} {l : List D} (hu : X.A.units + 80 < cLine) (I : Inv X pins σ H s) (hs : SqL X.K H a xs) (r : RepL X.K F H xs l) (ok : SrtOk l)
    (q : ∀ u H', Same H H' → RepN X.K F H' H u (.own (.lst (srtD l))) → Q u H') : wpAny (model X.prog X.w) X.A (call (.builtin "sorted") [.ref a]) (EP X pins σ Q) X.xe s := by
  obtain ⟨its, rv, hl, hz⟩ := I.list hs
  obtain ⟨p1, p2, p3, p4, p5⟩ := ok
  have e1 := r.each (vs := its) rv
  refine PySem.W.sorted_data (enc := D.py) hl.isList e1 (EachIs.mem e1 fun v d hd ⟨x, q1, q2⟩ => Rp1.reads I (.inl q2) (purL_mem p1 d hd) q1) p2 p3 p4 (fun d hd => by have := p5 d hd; omega) fun out hlen eo => ?_
  obtain ⟨ys, rv2, r2⟩ := each_repL eo
  obtain ⟨ep, he'⟩ := PyProof.Rows.sortedAll_at s.heap its out.toArray
  have hlen2 : ys.length ≤ sizeLine := by rw [rv2.length, hlen]; exact p4
  refine ⟨.ref _, upd H (s.heap.objs.size + 1) (.lst ys), I.laid (t' := s.toks) (fun _ _ => PyProof.Rows.sortedAll_old) (Nat.le_succ _) ⟨hlen2, out, ep, rv2, he'⟩, rfl, ?_⟩
  have hn : H (s.heap.objs.size + 1) = none := I.hok.fresh (Nat.le_succ _)
  exact q _ _ (same_new hn) ⟨_, rfl, .lst upd_same (r2.keep (keeps_same (same_new hn))), hn⟩
theorem signs_vals {x : Str} {acc : Array Value} (h : ItemsOf (SignAt x) acc x.cps.size) : Vals ((x.cps.toList.map fun c => V.str ⟨#[c]⟩)) acc.toList := by
  have key : ∀ (l : List Nat) (vs : List Value), vs.length = l.length → (∀ (j : Nat) (v : Value), vs[j]? = some v → ∃ (c : Nat) (u : Tok), l[j]? = some c ∧ v = Value.str ⟨#[c]⟩ u) → Vals (l.map fun c => V.str ⟨#[c]⟩) vs := by
    intro l
    induction l with
    | nil =>
      intro vs h1 _
      cases vs with
      | nil => exact .nil
      | cons a b => simp at h1
    | cons c l ih =>
      intro vs h1 h2
      cases vs with
      | nil => simp at h1
      | cons v vs =>
        obtain ⟨c', u, e1, e2⟩ := h2 0 v rfl
        simp at e1
        subst e1 e2
        exact .cons ⟨u, rfl⟩ (ih vs (by simpa using h1) fun j v' hj => h2 (j + 1) v' (by simpa using hj))
  refine key _ _ (by simpa using h.1) fun j v hj => ?_
  obtain ⟨c, u, e1, e2⟩ := h.2 j v (by simpa using hj)
  exact ⟨c, u, by simpa using e1, e2⟩
theorem signs_rep : ∀ l : List Nat, RepL X.K F H (l.map fun c => V.str ⟨#[c]⟩) (l.map fun c => D.str ⟨#[c]⟩)
  | [] => .nil
  | _ :: l => .cons (.str _) (signs_rep l)
theorem alike_str (a b : Str) : PySem.W.alike (.str a) (.str b) = true := by simp [PySem.W.alike]
theorem signs_srt (x : Str) (hz : x.cps.size ≤ sizeLine) : SrtOk (signsOf x) := by
  unfold signsOf
  have hp : ∀ l : List Nat, purL (l.map fun c => D.str ⟨#[c]⟩) = true := by
    intro l
    induction l with
    | nil => rfl
    | cons a l ih => rw [List.map_cons, purL, ih]; rfl
  refine ⟨hp _, ?_, .inr ?_, by simpa using hz, ?_⟩
  · intro d hd d' hd'
    simp only [List.map_map, List.mem_map, Function.comp] at hd hd'
    obtain ⟨c, _, rfl⟩ := hd
    obtain ⟨c', _, rfl⟩ := hd'
    exact alike_str _ _
  · intro d hd
    simp only [List.map_map, List.mem_map, Function.comp] at hd
    obtain ⟨c, _, rfl⟩ := hd
    exact ⟨fun e => (nomatch e), fun _ e => (nomatch e)⟩
  · intro d hd
    simp only [List.mem_map] at hd
    obtain ⟨c, _, rfl⟩ := hd
    show PyData.depth (.str _) < 64
    simp [PyData.depth]
theorem sorted_text {x : Str} {t : Tok} (hc : X.calm = true) (hu : X.A.units + 80 < cLine) (I : Inv X pins σ H s) (hz : x.cps.size ≤ sizeLine) (q : ∀ u H', Same H H' → RepN X.K F H' H u (.own (.lst (srtD (signsOf x)))) → Q u H') :
    wpAny (model X.prog X.w) X.A (call (.builtin "sorted") [.str x t]) (EP X pins σ Q) X.xe s := by
  refine Calls.call_function_entry PyProof.Rows.kind_sorted PyProof.Rows.plain_sorted PyProof.Rows.entry_sorted (PyProof.Rows.args_sorted1 _) ?_
  unfold Builtin.«sorted»
  refine wpAny_bind (m := checkCount "sorted" 1 1 _) (wpAny_pure ?_)
  refine wpAny_bind (wpAny_collect_str (A := X.A.in1) (I.ok.hd hc) x t (fun s' acc kp eg ed eo hacc => ?_) hz)
  have es : s' = { s with heap := s'.heap, toks := s'.toks } := by
    obtain ⟨h1, h2, h3, h4, h5⟩ := s'
    obtain ⟨g1, g2, g3, g4, g5⟩ := s
    simp only at eg ed eo
    subst eg ed eo
    rfl
  have I1 : Inv X pins σ H s' := by
    rw [es]
    exact I.kept kp
  have hv := signs_vals hacc
  have hl : acc.toList.length ≤ sizeLine := by rw [← hv.length]; simpa using hz
  refine wpAny_bind (wpAny_newList ?_ hl)
  refine wpAny_bind (wpAny_holding ?_)
  have hS : (s'.heap.push { cls := .type "list", data := .seq acc.toList.toArray }).get? s'.heap.objs.size = some { cls := .type "list", data := .seq acc.toList.toArray } := Heap.get?_push_size _ rfl
  have e1 : PySem.W.EachIs (fun v d => ∃ y, RelV y v ∧ Rep X.K F H y d) acc.toList (signsOf x) := (signs_rep x.cps.toList).each (vs := acc.toList) hv
  obtain ⟨p1, p2, p3, p4, p5⟩ := signs_srt x hz
  refine PySem.W.list_sort_data (enc := D.py) hS e1 (EachIs.mem e1 fun v d hd ⟨y, q1, q2⟩ => ?_) p2 p3 p4 (fun d hd => by have := p5 d hd; show X.A.in1.units + 1 + _ < cLine; have : X.A.in1.units ≤ X.A.units + 1 := Nat.le_refl _; omega) fun out hlen eo' => ?_
  · unfold signsOf at hd
    simp only [List.mem_map] at hd
    obtain ⟨c, _, rfl⟩ := hd
    cases q2
    obtain ⟨u, rfl⟩ := q1
    exact ⟨[], .str _ _, by simp⟩
  · obtain ⟨ys, rv2, r2⟩ := each_repL eo'
    obtain ⟨ep, he'⟩ := PyProof.Rows.sortedHeap_at (vs := acc.toList) (out := out.toArray) hS
    have hlen2 : ys.length ≤ sizeLine := by rw [rv2.length, hlen]; exact p4
    have hn : H s'.heap.objs.size = none := I1.hok.fresh (Nat.le_refl _)
    refine wpAny_pure ⟨_, rfl, .ref _, upd H s'.heap.objs.size (.lst ys), ?_, rfl, q _ _ (same_new hn) ⟨_, rfl, .lst upd_same (r2.keep (keeps_same (same_new hn))), hn⟩⟩
    refine I1.laid (t' := s'.toks) (fun b o e => ?_) (Nat.le_refl _) ⟨hlen2, out, ep, rv2, he'⟩
    rw [PyProof.Rows.sortedHeap_old (Nat.ne_of_lt (Heap.lt_size e)) (by rw [Heap.size_push]; exact Nat.lt_succ_of_lt (Heap.lt_size e))]
    exact Heap.get?_push_of_some _ e
theorem c_sorted (hc : X.calm = true) (hu : X.A.units + 80 < cLine) : CallR X (.builtin "sorted") (rON X.K dSorted) := by
  intro pins s σ H xs us Q I r ⟨F, ds, P, rl, h, k⟩
  unfold dSorted at h
  split at h
  · cases rl with
    | cons r1 r2 =>
      cases r2
      obtain ⟨a, ys, rfl, hx, rr⟩ := r1.lst
      rw [Vals.ref1 r]
      exact sorted_list hu I (.of hx) rr h.1 fun u H' sm rn => k _ h.2 u H' sm rn
  · cases rl with
    | cons r1 r2 =>
      cases r2
      obtain ⟨a, ys, rfl, hx, rr⟩ := r1.arr
      rw [Vals.ref1 r]
      exact sorted_list hu I hx rr h.1 fun u H' sm rn => k _ h.2 u H' sm rn
  · cases rl with
    | cons r1 r2 =>
      cases r2
      have e1 := r1.str
      subst e1
      obtain ⟨u, rfl, t, rfl⟩ := vals1 r
      exact sorted_text hc hu I h.1 fun u H' sm rn => k _ h.2 u H' sm rn
  · exact h.elim
end
end Ow

set_option Elab.async false
set_option linter.all false
set_option maxRecDepth 100000
set_option maxHeartbeats 2000000
namespace Ow
open PySem PySem.Spec L2
set_option autoImplicit false

theorem CallR.or2 {X : Cx} {f : Value} {r r' : List V → Hp → VK → Prop} (h : CallR X f r) (h' : CallR X f r') : CallR X f (fun xs H Q => r xs H Q ∨ r' xs H Q) := h.or h'
theorem Rp1L.one {K : PySem.W.Frag} {F : Addr → Prop} {H : Hp} {xs : List V} {d : D} (h : Rp1L K F H xs [d]) : ∃ x, xs = [x] ∧ Rp1 K F H x d := by
  cases h with
  | cons r t =>
    cases t
    exact ⟨_, rfl, r⟩
theorem Rp1L.two {K : PySem.W.Frag} {F : Addr → Prop} {H : Hp} {xs : List V} {d e : D} (h : Rp1L K F H xs [d, e]) : ∃ x y, xs = [x, y] ∧ Rp1 K F H x d ∧ Rp1 K F H y e := by
  cases h with
  | cons r t =>
    obtain ⟨y, rfl, q⟩ := t.one
    exact ⟨_, _, rfl, r, q⟩
def dLen : OpN := fun ds P => match ds with
  | [.lst l] => P (.frz (.int l.length))
  | [.arr l] => P (.frz (.int l.length))
  | [.tup l] => P (.frz (.int l.length))
  | [.str z] => z.length ≤ sizeLine ∧ P (.frz (.int z.length))
  | _ => False
theorem c_len {X : Cx} : CallR X (.builtin "len") (rON X.K dLen) := by
  refine cimp (call_len_seq.or call_len_str) ?_
  rintro xs H Q ⟨F, ds, P, rl, h, k⟩
  unfold dLen at h
  split at h
  · obtain ⟨x, rfl, r⟩ := rl.one
    obtain ⟨a, ys, rfl, hx, rr⟩ := r.lst
    exact .inl ⟨a, ys, rfl, .inl (.of hx), by rw [rr.length]; exact k _ h _ H (Same.refl H) (.int _)⟩
  · obtain ⟨x, rfl, r⟩ := rl.one
    obtain ⟨a, ys, rfl, hx, rr⟩ := r.arr
    exact .inl ⟨a, ys, rfl, .inl hx, by rw [rr.length]; exact k _ h _ H (Same.refl H) (.int _)⟩
  · obtain ⟨x, rfl, r⟩ := rl.one
    obtain ⟨a, ys, rfl, hx, rr⟩ := r.tup
    exact .inl ⟨a, ys, rfl, .inr hx, by rw [rr.length]; exact k _ h _ H (Same.refl H) (.int _)⟩
  · obtain ⟨x, rfl, r⟩ := rl.one
    have e := r.str
    subst e
    exact .inr ⟨_, rfl, h.1, k _ h.2 _ H (Same.refl H) (.int _)⟩
  · exact h.elim
def keyD : Key → D
  | .inl i => .int i
  | .inr s => .str s
def dList : OpN := fun ds P => match ds with
  | [.lst l] => P (.own (.lst l))
  | [.arr l] => P (.own (.lst l))
  | [.tup l] => P (.own (.lst l))
  | [.str z] => z.cps.size ≤ sizeLine ∧ P (.own (.lst (signsOf z)))
  | [.dK kvs] => P (.own (.lst (kvs.map fun kv => keyD kv.1)))
  | _ => False
theorem call_listS {X : Cx} (hc : X.calm = true) : CallR X (.type "list") (fun xs H Q => ∃ x : Str, xs = [.str x] ∧ x.cps.size ≤ sizeLine ∧ ∀ l, H l = none → Q (.ref l) (upd H l (.lst (x.cps.toList.map fun c => V.str ⟨#[c]⟩)))) := by
  intro pins s σ H xs us Q I r ⟨x, e, hz, q⟩
  subst e
  obtain ⟨u, rfl, t, rfl⟩ := vals1 r
  refine call_list_str (I.ok.hd hc) x t (fun h' tk acc c kp e hacc => ?_) hz
  have hv := signs_vals hacc
  refine ⟨.ref _, _, I.laid (t' := tk) kp (Nat.le_refl _) (show ObjOk X.prog X.w _ h' _ (.lst _) from ⟨by simpa using hz, acc.toList, c, hv, by simpa using e⟩), rfl, q _ (I.hok.fresh (Nat.le_refl _))⟩
theorem keys_rep {K : PySem.W.Frag} {F : Addr → Prop} {H : Hp} : ∀ {kvs : List (Key × V)} {ds : List (Key × D)}, RepK K F H kvs ds → RepL K F H (kvs.map fun kv => kV kv.1) (ds.map fun kv => keyD kv.1)
  | _, _, .nil => .nil
  | _, _, .cons (k := .inl i) _ t => .cons (.int i) (keys_rep t)
  | _, _, .cons (k := .inr s) _ t => .cons (.str s) (keys_rep t)
theorem c_list {X : Cx} (hc : X.calm = true) : CallR X (.type "list") (rON X.K dList) := by
  refine cimp (call_list_of.or ((call_listS hc).or (call_list_dK hc))) ?_
  rintro xs H Q ⟨F, ds, P, rl, h, k⟩
  have go : ∀ {ys : List V} {l : List D}, RepL X.K F H ys l → P (.own (.lst l)) → ∀ p, H p = none → Q (.ref p) (upd H p (.lst ys)) := fun {ys l} r p a ha =>
    k _ p _ _ (same_new ha) ⟨a, rfl, .lst upd_same (r.keep (keeps_same (same_new ha))), ha⟩
  unfold dList at h
  split at h
  · obtain ⟨x, rfl, r⟩ := rl.one
    obtain ⟨a, ys, rfl, hx, rr⟩ := r.lst
    exact .inl ⟨a, ys, rfl, .inl (.of hx), go rr h⟩
  · obtain ⟨x, rfl, r⟩ := rl.one
    obtain ⟨a, ys, rfl, hx, rr⟩ := r.arr
    exact .inl ⟨a, ys, rfl, .inl hx, go rr h⟩
  · obtain ⟨x, rfl, r⟩ := rl.one
    obtain ⟨a, ys, rfl, hx, rr⟩ := r.tup
    exact .inl ⟨a, ys, rfl, .inr hx, go rr h⟩
  · obtain ⟨x, rfl, r⟩ := rl.one
    have e := r.str
    subst e
    exact .inr (.inl ⟨_, rfl, h.1, go (signs_rep _) h.2⟩)
  · obtain ⟨x, rfl, r⟩ := rl.one
    obtain ⟨a, ys, rfl, hx, rr⟩ := r.dK
    exact .inr (.inr ⟨a, ys, rfl, hx, go (keys_rep rr) h⟩)
  · exact h.elim
def dTuple : OpN := fun ds P => match ds with
  | [.lst l] => P (.frz (.tup l))
  | [.arr l] => P (.frz (.tup l))
  | [.tup l] => P (.frz (.tup l))
  | _ => False
theorem c_tuple {X : Cx} : CallR X (.type "tuple") (rON X.K dTuple) := by
  refine cimp call_tuple_of ?_
  rintro xs H Q ⟨F, ds, P, rl, h, k⟩
  have go : ∀ {ys : List V} {l : List D}, RepL X.K F H ys l → P (.frz (.tup l)) → ∀ p, H p = none → Q (.ref p) (upd H p (.tup ys)) := fun {ys l} r p a ha =>
    k _ p _ _ (same_new ha) (.tup (.of upd_same) (r.keep (keeps_same (same_new ha))))
  unfold dTuple at h
  split at h
  · obtain ⟨x, rfl, r⟩ := rl.one
    obtain ⟨a, ys, rfl, hx, rr⟩ := r.lst
    exact ⟨a, ys, rfl, .inl ⟨.of hx, go rr h⟩⟩
  · obtain ⟨x, rfl, r⟩ := rl.one
    obtain ⟨a, ys, rfl, hx, rr⟩ := r.arr
    exact ⟨a, ys, rfl, .inl ⟨hx, go rr h⟩⟩
  · obtain ⟨x, rfl, r⟩ := rl.one
    obtain ⟨a, ys, rfl, hx, rr⟩ := r.tup
    exact ⟨a, ys, rfl, .inr ⟨hx, k _ h _ H (Same.refl H) (.tup hx rr)⟩⟩
  · exact h.elim
def dInt : OpN := fun ds P => match ds with
  | [.int i] => P (.frz (.int i))
  | [.bl b] => P (.frz (.int (if b then 1 else 0)))
  | _ => False
theorem c_int {X : Cx} : CallR X (.type "int") (rON X.K dInt) := by
  refine cimp call_int1 ?_
  rintro xs H Q ⟨F, ds, P, rl, h, k⟩
  unfold dInt at h
  split at h
  · obtain ⟨x, rfl, r⟩ := rl.one
    have e := r.int
    subst e
    exact .inl ⟨_, rfl, k _ h _ H (Same.refl H) (.int _)⟩
  · obtain ⟨x, rfl, r⟩ := rl.one
    have e := r.bl
    subst e
    exact .inr ⟨_, rfl, k _ h _ H (Same.refl H) (.int _)⟩
  · exact h.elim
def dMax2 : OpN := fun ds P => match ds with
  | [.int i, .int j] => P (.frz (.int (if j > i then j else i)))
  | _ => False
def dMin2 : OpN := fun ds P => match ds with
  | [.int i, .int j] => P (.frz (.int (if j < i then j else i)))
  | _ => False
theorem c_max2 {X : Cx} (hc : X.calm = true) : CallR X (.builtin "max") (rON X.K dMax2) := by
  refine cimp (call_max2 hc) ?_
  rintro xs H Q ⟨F, ds, P, rl, h, k⟩
  unfold dMax2 at h
  split at h
  · obtain ⟨x, y, rfl, r1, r2⟩ := rl.two
    have e1 := r1.int
    have e2 := r2.int
    subst e1 e2
    exact ⟨_, _, rfl, k _ h _ H (Same.refl H) (.int _)⟩
  · exact h.elim
theorem c_min2 {X : Cx} (hc : X.calm = true) : CallR X (.builtin "min") (rON X.K dMin2) := by
  refine cimp (call_min2 hc) ?_
  rintro xs H Q ⟨F, ds, P, rl, h, k⟩
  unfold dMin2 at h
  split at h
  · obtain ⟨x, y, rfl, r1, r2⟩ := rl.two
    have e1 := r1.int
    have e2 := r2.int
    subst e1 e2
    exact ⟨_, _, rfl, k _ h _ H (Same.refl H) (.int _)⟩
  · exact h.elim

/-! ### texts -/
def D.txt? : D → Option Str
  | .str s => some s
  | _ => none
def allTxt : List D → Option (List Str)
  | [] => some []
  | .str s :: r => (allTxt r).map (s :: ·)
  | _ :: _ => none
theorem allTxt_eq : ∀ {l : List D} {ys : List Str}, allTxt l = some ys → l = ys.map D.str
  | [], ys, h => by cases h; rfl
  | .str s :: r, ys, h => by
    unfold allTxt at h
    cases e : allTxt r with
    | none => rw [e] at h; cases h
    | some zs =>
      rw [e] at h
      cases h
      rw [allTxt_eq e]
      rfl
  | .non :: _, _, h => by cases h
  | .bl _ :: _, _, h => by cases h
  | .int _ :: _, _, h => by cases h
  | .lst _ :: _, _, h => by cases h
  | .tup _ :: _, _, h => by cases h
  | .arr _ :: _, _, h => by cases h
  | .dK _ :: _, _, h => by cases h
  | .obj _ _ :: _, _, h => by cases h
  | .ptr _ :: _, _, h => by cases h
abbrev OpM1 := D → D → (SV → Prop) → Prop
def dM0 (o : D → (SV → Prop) → Prop) (f : DE) : DE := dThen f fun r ρ P => o r.d fun s => P (.ok s) ρ
def D.isTxt : D → Bool
  | .str _ => true
  | _ => false
/-- a text's method of one argument -/
def dM1 (o : Op2) (f g : DE) : DE := dThen f fun r ρ1 P => r.d.isTxt = true ∧ dThen g (fun r2 ρ2 P => o r.d r2.d fun s => P (.ok s) ρ2) ρ1 P
def jJoin : Op2 := fun x y P => match x with
  | .str a => ∃ l ys, y.els = some l ∧ allTxt l = some ys ∧ (ys.map (·.length)).sum + ys.length * a.length ≤ 16777216 ∧ P (.frz (.str (Txt.join a ys)))
  | _ => False
def jUpper : D → (SV → Prop) → Prop := fun x P => match x with
  | .str a => a.length ≤ 5592405 ∧ P (.frz (.str (Txt.upper a)))
  | _ => False
section
variable {X : Cx} {C : Pr} {e a b o : Expr} {f fa fb g : DE} {pos apos p2 : Pos} {i : Nat}
theorem je_join (hC : JC X C) (ho : PE X o (lE C f)) (he : PE X e (lV C g)) (hs : starEach [e] X.env = [(false, eval e X.env)] := by rfl) (hbase : attributeBase o "join" X.env (eval o X.env) = eval o X.env := by rfl) (hline : (apos.endLine == pos.line) = true := by rfl) :
    PE X (.Call (.Attribute o "join" apos) [e] [] pos) (lE C (dM1 jJoin f g)) :=
  PE.imp (pe_join ho he hs hbase hline) fun σ H Q ⟨ρ, F, P, R, hf, k1, k2⟩ => by
    refine sE R hf k2 fun r ρ1 v H1 F1 x1 R1 rv ⟨ht, q⟩ => ?_
    have hs : ∃ a, r.d = .str a := by
      cases e : r.d with
      | str a => exact ⟨a, rfl⟩
      | _ => rw [e] at ht; cases ht
    obtain ⟨a, ea⟩ := hs
    rw [ea] at rv q
    cases rv
    refine ⟨⟨a, rfl⟩, sV R1 q (exP.bk k2 x1) fun r2 ρ2 w H2 F2 x2 R2 rw2 q2 => ?_⟩
    obtain ⟨l, ys, e1, e2, hz, q3⟩ := q2
    have el := allTxt_eq e2
    have key : ∃ p, w = .ref p ∧ (SqL X.K H2 p (ys.map V.str) ∨ SqT X.K H2 p (ys.map V.str)) := by
      cases hd : r2.d with
      | lst l' =>
        rw [hd] at e1 rw2
        cases e1
        rw [el] at rw2
        obtain ⟨p, xs, rfl, hx, rr⟩ := rw2.lst
        rw [rr.map_str] at hx
        exact ⟨p, rfl, .inl (.of hx)⟩
      | arr l' =>
        rw [hd] at e1 rw2
        cases e1
        rw [el] at rw2
        obtain ⟨p, xs, rfl, hx, rr⟩ := rw2.arr
        rw [rr.map_str] at hx
        rw [← hC.k]
        exact ⟨p, rfl, .inl hx⟩
      | tup l' =>
        rw [hd] at e1 rw2
        cases e1
        rw [el] at rw2
        obtain ⟨p, xs, rfl, hx, rr⟩ := rw2.tup
        rw [rr.map_str] at hx
        rw [← hC.k]
        exact ⟨p, rfl, .inr hx⟩
      | _ => rw [hd] at e1; cases e1
    obtain ⟨p, rfl, hq⟩ := key
    exact ⟨a, p, ys, rfl, rfl, hq, hz, k1 _ _ q3 _ H2 F2 (x1.trans x2) R2 (.str _)⟩
theorem je_upper (hC : JC X C) (ho : PE X o (lE C f)) (hbase : attributeBase o "upper" X.env (eval o X.env) = eval o X.env := by rfl) (hline : (apos.endLine == pos.line) = true := by rfl) :
    PE X (.Call (.Attribute o "upper" apos) [] [] pos) (lE C (dM0 jUpper f)) :=
  PE.imp (pe_upper ho hbase hline) fun σ H Q ⟨ρ, F, P, R, hf, k1, k2⟩ => by
    refine sE R hf k2 fun r ρ1 v H1 F1 x1 R1 rv q => ?_
    unfold jUpper at q
    split at q
    · rename_i a ea
      rw [ea] at rv
      cases rv
      exact ⟨⟨a, rfl⟩, a, rfl, rfl, q.1, k1 _ _ q.2 _ H1 F1 x1 R1 (.str _)⟩
    · exact q.elim
end
end Ow

set_option Elab.async false
set_option linter.all false
set_option maxRecDepth 100000
set_option maxHeartbeats 2000000
namespace Ow
open PySem PySem.Spec L2
set_option autoImplicit false

/-! ### isinstance, built-in types -/
inductive Ty0 where
  | str | tup | lst | dic | int | bl
  deriving DecidableEq
def Ty0.nm : Ty0 → String
  | .str => "str"
  | .tup => "tuple"
  | .lst => "list"
  | .dic => "dict"
  | .int => "int"
  | .bl => "bool"
def D.isa : D → Ty0 → Option Bool
  | .non, _ => some false
  | .bl _, .bl => some true
  | .bl _, .int => some true
  | .bl _, _ => some false
  | .int _, .int => some true
  | .int _, _ => some false
  | .str _, .str => some true
  | .str _, _ => some false
  | .lst _, .lst => some true
  | .lst _, _ => some false
  | .arr _, .lst => some true
  | .arr _, _ => some false
  | .tup _, .tup => some true
  | .tup _, _ => some false
  | .dK _, .dic => some true
  | .dK _, _ => some false
  | .obj _ _, _ => none
  | .ptr _, _ => none
def D.isaL (d : D) : List Ty0 → Option Bool
  | [] => some false
  | T :: r => match d.isa T with
    | some true => some true
    | some false => d.isaL r
    | none => none
theorem isa_kit {K : PySem.W.Frag} {F : Addr → Prop} {H : Hp} {x : V} {d : D} (r : Rp1 K F H x d) (hd : (∀ c fs, d ≠ .obj c fs) ∧ ∀ a, d ≠ .ptr a) : ∃ t : String, TyX K H x (.type t) ∧ ∀ (T : Ty0), ∃ b, d.isa T = some b ∧ PySem.W.kitOne K (.type t) (.type T.nm) = some b := by
  have go : ∀ {t : String}, TyX K H x (.type t) → (∀ T : Ty0, ∃ b, d.isa T = some b ∧ kitB t T.nm = some b) → ∃ t : String, TyX K H x (.type t) ∧ ∀ (T : Ty0), ∃ b, d.isa T = some b ∧ PySem.W.kitOne K (.type t) (.type T.nm) = some b :=
    fun h k => ⟨_, h, fun T => let ⟨b, e, z⟩ := k T; ⟨b, e, kit_ty z⟩⟩
  cases d with
  | non =>
    have e := r.non
    subst e
    refine go (.base .non) fun T => ?_
    cases T <;> exact ⟨_, rfl, by decide +kernel⟩
  | bl b =>
    have e := r.bl
    subst e
    refine go (.base (.bl _)) fun T => ?_
    cases T <;> exact ⟨_, rfl, by decide +kernel⟩
  | int b =>
    have e := r.int
    subst e
    refine go (.base (.int _)) fun T => ?_
    cases T <;> exact ⟨_, rfl, by decide +kernel⟩
  | str b =>
    have e := r.str
    subst e
    refine go (.base (.str _)) fun T => ?_
    cases T <;> exact ⟨_, rfl, by decide +kernel⟩
  | lst l =>
    obtain ⟨a, xs, rfl, hx, _⟩ := r.lst
    refine go (.base (.lst hx)) fun T => ?_
    cases T <;> exact ⟨_, rfl, by decide +kernel⟩
  | arr l =>
    obtain ⟨a, xs, rfl, hx, _⟩ := r.arr
    have ty : TyX K H (.ref a) (.type "list") := by
      rcases hx with (hx | ⟨o, hx⟩) | ⟨o, its, n, h1, h2, _⟩
      · exact .base (.lst hx)
      · exact .base (.frz hx)
      · exact .kList h1 h2
    refine go ty fun T => ?_
    cases T <;> exact ⟨_, rfl, by decide +kernel⟩
  | tup l =>
    obtain ⟨a, xs, rfl, hx, _⟩ := r.tup
    have ty : TyX K H (.ref a) (.type "tuple") := by
      rcases hx with (hx | ⟨o, hx⟩) | ⟨o, its, n, h1, h2, _⟩
      · exact .base (.tup hx)
      · exact .fTuple hx
      · exact .kTuple h1 h2
    refine go ty fun T => ?_
    cases T <;> exact ⟨_, rfl, by decide +kernel⟩
  | dK l =>
    obtain ⟨a, xs, rfl, hx, _⟩ := r.dK
    refine go (.base (.dK hx)) fun T => ?_
    cases T <;> exact ⟨_, rfl, by decide +kernel⟩
  | obj c fs => exact (hd.1 c fs rfl).elim
  | ptr a => exact (hd.2 a rfl).elim
theorem isa_noobj {d : D} {T : Ty0} {Ts : List Ty0} {b : Bool} (h : d.isaL (T :: Ts) = some b) : (∀ c fs, d ≠ .obj c fs) ∧ ∀ a, d ≠ .ptr a := by
  refine ⟨fun c fs e => ?_, fun a e => ?_⟩
  · subst e
    cases h
  · subst e
    cases h
theorem kit_any {K : PySem.W.Frag} {t : String} {d : D} (h : ∀ (T : Ty0), ∃ b, d.isa T = some b ∧ PySem.W.kitOne K (.type t) (.type T.nm) = some b) : ∀ {Ts : List Ty0} {b : Bool}, d.isaL Ts = some b → PySem.W.kitAny K (.type t) (Ts.map fun T => .type T.nm) = some b
  | [], b, e => e
  | T :: Ts, b, e => by
    obtain ⟨c, h1, h2⟩ := h T
    unfold D.isaL at e
    rw [h1] at e
    cases c with
    | true =>
      cases e
      exact kitAny_cons h2 (fun z => nomatch z) fun _ => rfl
    | false => exact kitAny_cons h2 (fun _ => kit_any h e) fun z => nomatch z
def dIsi (Ts : List Ty0) (f : DE) : DE := dThen f fun r ρ P => ∃ b, r.d.isaL Ts = some b ∧ P (.ok (.frz (.bl b))) ρ
section
variable {X : Cx} {C : Pr} {e a b : Expr} {es : List Expr} {f : DE} {p pos tpos : Pos}
theorem je_isi (hC : JC X C) {T : Ty0} (hg : Gl X "isinstance") (hm : X.mg "isinstance" = none) (ha : PE X a (lV C f)) (hb : PE X b (tC (.ty T.nm)))
    (he : starEach [a, b] X.env = (false, eval a X.env) :: starEach [b] X.env := by rfl) (hs2 : starEach [b] X.env = (false, eval b X.env) :: starEach [] X.env := by rfl) (hpl : (backTo pos (starEach [b] X.env)).any (·.1) = false := by rfl) :
    PE X (.Call (.Name "isinstance" p) [a, b] [] pos) (lE C (dIsi [T] f)) :=
  PE.imp (pe_callB call_isi hg hm (by rfl) (pa_cons ha (pa_cons hb pa_nil hs2) he) (by decide) (by decide) he hpl) fun σ H Q ⟨ρ, F, P, R, hf, k1, k2⟩ => by
    refine sV R hf k2 fun r ρ1 v H1 F1 x1 R1 rv ⟨b, hb, q⟩ => ?_
    obtain ⟨t, ty, kk⟩ := isa_kit rv (isa_noobj hb)
    obtain ⟨b', e1, e2⟩ := kk T
    have eb : b' = b := by
      unfold D.isaL at hb
      rw [e1] at hb
      cases b' with
      | true => cases hb; rfl
      | false => cases hb; rfl
    subst eb
    rw [hC.k] at ty e2
    exact ⟨v, _, _, _, b', rfl, .ty _, ty, e2, k1 _ _ q _ H1 F1 x1 R1 (.bl _)⟩
/-- a row of built-in types -/
structure TyRow (X : Cx) (es : List Expr) (Ts : List Ty0) : Prop where
  pa : ∃ t : TA, PA X es t ∧ ∀ σ H Q, Q (Ts.map fun T => V.ty T.nm) H → t σ H Q
theorem tyrow_nil : TyRow X [] [] := ⟨⟨_, pa_nil, fun _ _ _ q => q⟩⟩
theorem tyrow_cons {T : Ty0} {Ts : List Ty0} (h : PE X e (tC (.ty T.nm))) (hr : TyRow X es Ts) (hs : starEach (e :: es) X.env = (false, eval e X.env) :: starEach es X.env := by rfl) : TyRow X (e :: es) (T :: Ts) := by
  obtain ⟨t, h1, h2⟩ := hr.pa
  exact ⟨⟨_, pa_cons h h1 hs, fun σ H Q q => h2 σ H _ q⟩⟩
theorem cls_row : ∀ Ts : List Ty0, Paired ClsV (Ts.map fun T => V.ty T.nm) (Ts.map fun T => Value.type T.nm)
  | [] => .nil
  | _ :: r => .cons (.ty _) (cls_row r)
theorem je_isiT (hC : JC X C) {T : Ty0} {Ts : List Ty0} {kk : Nat} (hg : Gl X "isinstance") (hm : X.mg "isinstance" = none) (ha : PE X a (lV C f)) (hb : TyRow X es (T :: Ts)) (hsz : (T :: Ts).length ≤ 64)
    (he : starEach [a, .Tuple es kk tpos] X.env = (false, eval a X.env) :: starEach [.Tuple es kk tpos] X.env := by rfl) (hs2 : starEach [.Tuple es kk tpos] X.env = (false, eval (.Tuple es kk tpos) X.env) :: starEach [] X.env := by rfl) (hpl : (backTo pos (starEach [.Tuple es kk tpos] X.env)).any (·.1) = false := by rfl) :
    PE X (.Call (.Name "isinstance" p) [a, .Tuple es kk tpos] [] pos) (lE C (dIsi (T :: Ts) f)) := by
  obtain ⟨t, h1, h2⟩ := hb.pa
  refine PE.imp (pe_callB call_isiT hg hm (by rfl) (pa_cons ha (pa_cons (pe_tup h1) pa_nil hs2) he) (by decide) (by decide) he hpl) fun σ H Q ⟨ρ, F, P, R, hf, k1, k2⟩ => ?_
  refine sV R hf k2 fun r ρ1 v H1 F1 x1 R1 rv ⟨b, hb, q⟩ => ?_
  refine h2 _ _ _ ⟨by rw [List.length_map, sizeLine_eq]; omega, fun tp htp => ?_⟩
  have rv2 : Rp1 C.K F1 (upd H1 tp (.tup ((T :: Ts).map fun T => V.ty T.nm))) v r.d := by
    rcases rv with rv | ⟨a, e, t⟩
    · exact .inl (rv.keep (keeps_same (same_new htp)))
    · exact .inr ⟨a, e, t.keep (keeps_same (same_new htp)) fun o z => same_new htp _ _ z⟩
  obtain ⟨tn, ty, kk⟩ := isa_kit rv2 (isa_noobj hb)
  rw [hC.k] at ty
  refine ⟨v, tp, _, _, _, b, rfl, upd_same, cls_row (T :: Ts), ty, ?_, k1 _ _ q _ _ F1 (x1.trans (Ext.same (same_new htp))) (R1.same (same_new htp)) (.bl _)⟩
  rw [← hC.k]
  exact kit_any kk hb
end

/-! ### dicts -/
def D.key? : D → Option Key
  | .int i => some (.inl i)
  | .str s => some (.inr s)
  | _ => none
/-- d[k] of a name -/
def dGetV (i : Nat) (g : DE) : DE := fun ρ P => (∃ s, ρ[i]? = some (some s)) ∧ dThen g (fun r ρ1 P => ∃ s kvs k d, ρ1[i]? = some (some s) ∧ s.d = .dK kvs ∧ r.d.key? = some k ∧ dval kvs k = some d ∧ P (.ok (.frz d)) ρ1) ρ P
theorem key_v {K : PySem.W.Frag} {F : Addr → Prop} {H : Hp} {v : V} {d : D} {k : Key} (r : Rep K F H v d) (h : d.key? = some k) : v = kV k := by
  cases d <;> cases h <;> cases r <;> rfl
section
variable {X : Cx} {C : Pr} {e a b i' o : Expr} {es : List Expr} {f g : DE} {p pos pos' tpos : Pos} {i : Nat}
theorem je_getV (hC : JC X C) (hu : X.A.units + 1 < cLine) (ho : PE X o (tVar i)) (hi : PE X i' (lE C g)) (hs : NoSl i' := by intro _ _; rfl) : PE X (.Subscript o i' pos) (lE C (dGetV i g)) :=
  PE.imp (pe_dget hu ho hi hs) fun σ H Q ⟨ρ, F, P, R, ⟨⟨s0, h0⟩, hf⟩, k1, k2⟩ => by
    obtain ⟨v, hv, _⟩ := R.rp1 h0
    refine ⟨v, hv, sE R hf k2 fun r ρ1 w H1 F1 x1 R1 rw' ⟨s, kvs, k, d, hs, hd, hk, hval, q⟩ => ?_⟩
    obtain ⟨v', hv', rv⟩ := R1.rp1 hs
    rw [hv] at hv'
    cases hv'
    rw [hd] at rv
    obtain ⟨a, ys, rfl, hx, rr⟩ := rv.dK
    have ek := key_v rw' hk
    subst ek
    rcases rr.val (k := k) with ⟨_, z⟩ | ⟨u, d', z1, z2, z3⟩
    · rw [hval] at z; cases z
    · rw [hval] at z2
      cases z2
      exact ⟨a, u, rfl, by rw [← z1]; exact DGet.k hx, k1 _ _ q _ H1 F1 x1 R1 z3⟩
/-- d[k] = v, the dict a name's -/
def dPutV (i : Nat) (f g : DE) : DS := dsThen f fun r ρ1 P => (∃ s, ρ1[i]? = some (some s)) ∧ dsThen g (fun r2 ρ2 P => ∃ s kvs k, ρ2[i]? = some (some s) ∧ s.mt = some (.dK kvs) ∧ r2.d.key? = some k ∧ kvs.length < sizeLine ∧ P .nx (ρ2.set i (some (s.put (.dK (dput kvs k r.d)))))) ρ1 P
theorem js_put {value : Expr} (hC : JC X C) (hu : X.A.units + 1 < cLine) (ho : PE X o (tVar i)) (hi : PE X i' (lE C g)) (hv : PE X value (lE C f)) (hs : swapsWith value (some (.Subscript o i' pos')) pos.line X.env = pure false := by rfl) :
    PS X (.Assign [.Subscript o i' pos'] value pos) (lS C (dPutV i f g)) :=
  PS.imp (ps_dput hu ho hi hv hs) fun Dn σ H ⟨ρ, F, P, R, hf, k6⟩ => by
    refine sS R hf k6 fun r ρ1 v H1 F1 x1 R1 rs ⟨⟨s0, h0⟩, q⟩ => ?_
    obtain ⟨F2, x2, R2, rv⟩ := RepS.fz R x1 R1 rs
    obtain ⟨w, hw, _⟩ := R2.rp1 h0
    refine ⟨w, hw, ρ1, F2, _, R2, q, fun r2 ρ3 q3 u H3 F3 x3 R3 rs3 => ?_, fun c y ρ' pp cls dd H' F' x' R' xo => k6.ex c y ρ' pp cls dd σ H' F' ((x2.keeps R).trans (x'.keeps R2)) R' (xo.bk fun a z => R.h0 (x2.bk a z))⟩
    obtain ⟨F4, x4, R4, rv4⟩ := RepS.fz R2 x3 R3 rs3
    obtain ⟨s, kvs, k, hs, m, hk, hl, q4⟩ := q3
    obtain ⟨a, e1, nf, t, z⟩ := R4.mt i s _ hs m
    rw [hw] at e1
    cases e1
    have ek := key_v rv4 hk
    subst ek
    cases t with
    | dK hx rr =>
      rename_i kws
      have rv' := rv.keep (x4.keeps R2)
      have K1 : Keeps C.K F4 H3 F4 (upd H3 a (.dK (putK kws k v))) := keeps_upd nf hx (fun _ e => nomatch e) (fun _ _ e => nomatch e)
      have t' : Top C.K F4 (upd H3 a (.dK (putK kws k v))) a (.dK (dput kvs k r.d)) := .dK upd_same (RepK.put (rv'.keep K1) (rr.keep K1))
      have trk : ∀ b, F4 b → ∃ o, (upd H3 a (.dK (putK kws k v))) b = some o := fun b fb => by
        obtain ⟨o, ho⟩ := R4.trk b fb
        exact ⟨o, by rw [upd_ne (show b ≠ a from fun e => nf (e ▸ fb))]; exact ho⟩
      obtain ⟨R5, x5⟩ := R4.upd hs m hw (fun _ q => q) (fun _ q => .inl q) trk upd_kp upd_bk t'
      refine ⟨a, _, rfl, DPut.k hx (by rw [rr.length]; exact hl), ?_⟩
      exact k6.nx _ q4 σ _ F4 (((x2.keeps R).trans (x4.keeps R2)).trans (x5.keeps R4)) R5
end
end Ow

set_option Elab.async false
set_option linter.all false
set_option maxRecDepth 100000
set_option maxHeartbeats 2000000
namespace PySem
namespace OwX
open PySem.W PySem.Calls PyProof.Rows PySem.HandSPX
/-! ### own errors: the text of __init__ (after the worked proof 42_own_error_by_import) -/
def iA (p1 p2 : Pos) : Arguments := { posonlyargs := [], args := [{ arg := "self", annotation := none, pos := p1 }, { arg := "at", annotation := none, pos := p2 }], vararg := none, kwonlyargs := [], kw_defaults := [], kwarg := none, defaults := [] }
def iB (q1 q2 q3 q4 : Pos) : List Stmt := [.Assign [.Attribute (.Name "self" q1) "at" q2] (.Name "at" q3) q4]
def iS : Scope := { kind := .function, names := [(PySem.Str.ofString "self", .local), (PySem.Str.ofString "at", .local)], isGenerator := false, isCoroutine := false, more := [] }
/-- what the written part says of an error class at C, and of the __init__ that it has of its base, at fI -/
structure ErrC (K : Frag) (mg : Str → Option Value) (c : Str) (C fI : Addr) : Prop where
  gC : mg c = some (.ref C)
  cls : ∃ nm q N bs bm sn sub ab col dd k0 k1 k2 k3 k5, K.lookup C = some (excClassObj nm q C N bs bm true sn sub ab col dd k0 k1 k2 k3 k5 "ValueError.__new__") ∧ refsVE bm = true
  sa : findIn K (.ref C) "__setattr__" = some (some (.builtin "object.__setattr__"))
  ga : findIn K (.ref C) "__getattribute__" = some (some (.builtin "BaseException.__getattribute__"))
  gg : findIn K (.ref C) "__getattr__" = some none
  noN : findIn K (.ref C) "at" = some none
  iC : findIn K (.ref C) "__init__" = some (some (.ref fI))
  tC : typeIn K (.ref fI) = some (.type "function")
  kC : keepIn K (.ref C) = true
  exC : subIn K (.ref C) (.type "BaseException") = some true
  tyC : typeIn K (.ref C) = some (.type "type")
  hdC : hasDictIn K C = true
  fn : ∃ (oc : Value) (od : Option Addr) (doc pm : Value) (an : Option Addr) (cdv ct kV : Value) (osl : Array (Option Value)) (p1 p2 q1 q2 q3 q4 : Pos),
    K.lookup fI = some ⟨oc, od, .func (fnOf "__init__" "OutweighedError.__init__" (iA p1 p2) (iB q1 q2 q3 q4) iS .none kV doc pm an cdv ct), osl⟩ ∧ codeIn K cdv "OutweighedError.__init__" = true
theorem one_size (v : Value) : [v].length ≤ sizeLine := by
  rw [sizeLine_eq]
  exact (by decide : 1 ≤ 16777216)
theorem ldC {M : Model} {s : Shared} {name : Str} {scope : Scope} {L a : Addr} {cd : Value} {m : Str → Option Value} {x : Str} {pos : Pos} {v : Value} {Q : Value → Shared → Prop} {A : Around} {E : Value → Shared → Prop} (hn : s.heap.Ns L m) (hv : m x = some v) (h : Q v s)
    (hk : scope.kind = .function := by rfl) (hl : (envOfC name scope L a cd).kindOf x = some .local := by rfl) (hd : (x == ("__debug__" : Str)) = false := by decide) :
    wpAny M A (eval (.Name x pos) (envOfC name scope L a cd)) Q E s := wpAny_Name (wpAny_loadName_local hk hl hn hv h) hd
/-- what __init__ leaves of a fresh exception at x -/
structure InitEnd (h h' : Heap) (x C dx t1 : Addr) (v : Value) : Prop where
  keep : ∀ b o, b ≠ x → h.get? b = some o → h'.get? b = some o
  obj : h'.get? x = some { cls := .ref C, dict := some dx, data := .fields #[.ref t1, .none, .none, .none, .bool false, .none] }
  dbig : h.objs.size ≤ dx
  dne : dx ≠ x
  ns : h'.Ns1 dx (fun y => if y = "at" then some v else none)
/-- a made error -/
structure OwnMade (h h' : Heap) (e C d : Addr) (v : Value) : Prop where
  keep : ∀ b o, h.get? b = some o → h'.get? b = some o
  new : h.objs.size ≤ e
  obj : ∃ oe vs, h'.get? e = some oe ∧ oe.cls = .ref C ∧ oe.dict = some d ∧ oe.data = .fields vs ∧ vs[1]? = some .none
  dbig : h.objs.size ≤ d
  dne : d ≠ e
  ns : h'.Ns1 d (fun y => if y = "at" then some v else none)
section
variable {prog : Program} {w : World} {A : Around} {E : Value → Shared → Prop} {R : Result → Shared → Prop} {s : Shared} {K : Frag} {mg : Str → Option Value} {c : Str} {C fI : Addr}
theorem err_init (T : ErrC K mg c C fI) {x t0 : Addr} {v : Value} (X : K.In s.heap) (hlim : s.heap.NoLimit) (hx : s.heap.get? x = some (excO C t0)) (hnx : K.lookup x = none) (hroom : A.depth < recursionLimit)
    (hq : ∀ h' tk dx, InitEnd s.heap h' x C dx t0 v → R (.ok (.ret .none)) { s with heap := h', toks := tk }) :
    codeAny (model prog w) A (.call (.ref fI) ⟨[.ref x, v], []⟩) R s := by
  obtain ⟨oc, od, doc, pm, an, cdv, ct, kV, osl, p1, p2, q1, q2, q3, q4, ho, hcd⟩ := T.fn
  obtain ⟨nm, q, N, bs, bm, sn, sub, ab, col, dd, k0, k1, k2, k3, k5, hC, hbm⟩ := T.cls
  have hcl : clsIn K C = some { name := nm, bases := bs, mro := .ref C :: bm, ns := N, qualname := q, hasDict := true, slotNames := sn, subclasses := sub, abstract := ab, collection := col, hasDel := false } := by unfold clsIn; rw [hC] <;> rfl
  refine Att.call_fn (binds := [("self", .ref x), ("at", v)]) X hlim ho hcd hroom (BindsTo.of_eq (by first | rfl | with_unfolding_all rfl)) (by first | rfl | decide | with_unfolding_all rfl) (fun s₁ IC => ?_) rfl rfl rfl
  obtain ⟨h₁, tk₁, rfl⟩ := IC.toInCall.same
  have k : ∀ b o, s.heap.get? b = some o → h₁.get? b = some o := IC.toInCall.keep
  have hn := IC.toInCall.ns
  have hxL : s.heap.objs.size ≠ x := Nat.ne_of_gt (Heap.lt_size hx)
  have X₁ : K.In h₁ := X.keeps k
  have hx₁ := k _ _ hx
  show wpAny _ _ (execs _ _) _ _ _
  refine wpAny_execs_cons (plainObj_wpAny_Assign_Attribute ?_)
  refine ldC (v := v) hn (by first | rfl | with_unfolding_all rfl | kernel_rfl) (ldC (v := .ref x) hn (by first | rfl | with_unfolding_all rfl | kernel_rfl) ?_)
  refine set_plain X₁ (ox := excO C t0) (od := none) ⟨hx₁, rfl, rfl, trivial⟩ T.sa ?_
  refine exc_osa X₁ hx₁ hcl (show refsVE (.ref C :: bm) = true from hbm) rfl T.noN (fun h₃ tk₃ dx k₃ dn dne hx₃ hn₃ => ?_)
  show wpAny _ _ (execs _ _) _ _ _
  have z : s.heap.objs.size < h₁.objs.size := hn.lt
  exact wpAny_execs_nil (hq h₃ tk₃ dx ⟨fun b o hb e => k₃ b o hb (k b o e), hx₃, Nat.le_of_lt (Nat.lt_of_lt_of_le z dn), dne, hn₃⟩)
theorem err_made (T : ErrC K mg c C fI) {v : Value} (X : K.In s.heap) (hlim : s.heap.NoLimit) (hroom : A.depth + 1 < recursionLimit)
    (hq : ∀ h' tk e d, OwnMade s.heap h' e C d v → R (.ok (.ret (.ref e))) { s with heap := h', toks := tk }) :
    codeAny (model prog w) A (.call (.ref C) ⟨[v], []⟩) R s := by
  obtain ⟨nm, q, N, bs, bm, sn, sub, ab, col, dd, k0, k1, k2, k3, k5, hC, hbm⟩ := T.cls
  obtain ⟨hp, g, dr, tk, os⟩ := s
  have k : ∀ b o, hp.get? b = some o → ((hp.push (kdv_tup [v])).push (excO C hp.objs.size)).get? b = some o := fun b o e => Heap.get?_push_of_some _ (Heap.get?_push_of_some _ e)
  have hget : ((hp.push (kdv_tup [v])).push (excO C hp.objs.size)).get? (hp.objs.size + 1) = some (excO C hp.objs.size) := by heap_get
  have hnx : K.lookup (hp.objs.size + 1) = none := by
    cases e : K.lookup (hp.objs.size + 1) with
    | none => rfl
    | some o =>
      have z : hp.get? (hp.objs.size + 1) = some o := X _ _ e
      exact absurd (Nat.lt_of_succ_lt (Heap.lt_size z)) (Nat.lt_irrefl _)
  refine call_own F.excBase_ValueError (fun X => refsVE_contains X bm hbm) (X _ _ hC) (looks_findIn X T.iC) (fun self => bind_fn X self T.tC) (one_size v) ?_
  refine err_init (s := ⟨(hp.push (kdv_tup [v])).push (excO C hp.objs.size), g, dr, tk, os⟩) T (X.keeps k) (hlim.keeps k) hget hnx ?_ fun h' tk' dx ⟨k', hx, dn, dne, hns⟩ => ?_
  · show A.depth + 1 < recursionLimit
    exact hroom
  · have old : ∀ b o, hp.get? b = some o → h'.get? b = some o := fun b o e => k' b o (Nat.ne_of_lt (Nat.lt_succ_of_lt (Heap.lt_size e))) (k b o e)
    have z : hp.objs.size + 1 + 1 ≤ dx := by
      first
        | (simpa only [Heap.size_push] using dn)
        | exact dn
        | (have q := dn; rw [Heap.size_push, Heap.size_push] at q; exact q)
    exact ⟨rfl, hq h' tk' (hp.objs.size + 1) dx ⟨old, Nat.le_succ _, ⟨_, _, hx, rfl, rfl, rfl, rfl⟩, Nat.le_trans (Nat.le_trans (Nat.le_succ _) (Nat.le_succ _)) z, dne, hns⟩⟩
end
end OwX
end PySem
namespace Ow
open PySem PySem.Spec L2
set_option autoImplicit false
theorem relO_err {v : V} {v' : Value} (r : RelV v v') (f : Str) : RelO (List.lookup f [(("at" : Str), v)]) (if f = "at" then some v' else none) := by
  by_cases hw : f = "at"
  · subst hw
    rw [if_pos rfl]
    have q : List.lookup ("at" : Str) [(("at" : Str), v)] = some v := by simp [List.lookup]
    rw [q]
    exact r
  · rw [if_neg hw]
    have qw : (f == ("at" : Str)) = false := by simpa using hw
    have q2 : List.lookup f [(("at" : Str), v)] = none := by simp [List.lookup, qw]
    rw [q2]
    trivial
section
variable {X : Cx} {c : Str} {C0 fI : Addr}
/-- c(e) -/
def tMkErr (C : Addr) (ta : TA) : L2.St → Hp → XK → Prop := fun σ H Q => ta σ H fun vs H1 => ∃ v, vs = [v] ∧ ∀ d, H1 d = none → Q (.ref C) (some d) (upd H1 d (.xd [(("at" : Str), v)]))
theorem pmk_err {a : Expr} {ta : TA} {p pos : Pos} {k : Nat} (T : PySem.OwX.ErrC X.K X.mg c C0 fI) (hr : Room k X.A) (ha : PA X [a] ta) (hg : Gl X c) (hdb : (c == ("__debug__" : Str)) = false := by decide)
    (he : starEach (a :: []) X.env = (false, eval a X.env) :: starEach [] X.env := by rfl) (hpl : (backTo pos (starEach [] X.env)).any (·.1) = false := by rfl) :
    PMk X (.Call (.Name c p) [a] [] pos) (tMkErr C0 ta) := by
  intro pins s σ H Q I h
  refine wpAny_Call_Name_kw (ld_glob I hg T.gC ?_ hdb)
  refine PySem.W.callWith_K (h₀ := X.base) I.ok.mod.kin T.kC (thn (ha.run pos pins s σ H _ I h) fun us s1 hh => ?_) he hpl
  obtain ⟨vs, H1, I1, r1, v, ev, q1⟩ := hh
  subst ev
  refine ⟨I1.kIn, ?_⟩
  cases r1 with
  | cons rv rn =>
    rename_i v' us'
    cases rn
    show wpAny _ _ (call (.ref C0) [v']) _ _ _
    have hlim := I1.nolimit
    obtain ⟨hp, g, dr, tk, os⟩ := s1
    refine wpAny_call (PySem.OwX.err_made T I1.kIn hlim (by have := hr.dp; omega) fun h' tk' e d M => ?_)
    show MkP X pins σ Q (.ref e) ⟨h', g, dr, tk', os⟩
    obtain ⟨oe, fv, hoe, hc, hd, hdat, h1⟩ := M.obj
    have hns := M.ns
    obtain ⟨G', g1, g2⟩ := restrict h' fun b => decide (b ≠ e)
    have gk : ∀ b, b ≠ e → G'.get? b = h'.get? b := fun b hb => g1 b (decide_eq_true hb)
    have ge : G'.get? e = none := g2 e (by simp)
    have old : ∀ b o, hp.get? b = some o → G'.get? b = some o := fun b o q => (gk b (Nat.ne_of_lt (Nat.lt_of_lt_of_le (Heap.lt_size q) M.new))).trans (M.keep b o q)
    have ob : ObjOk X.prog X.w (upd H1 d (.xd [(("at" : Str), v)])) G' d (.xd [(("at" : Str), v)]) :=
      ⟨_, hns.at (fun o q => (gk d M.dne).trans q), fun f => relO_err rv f⟩
    have J : Inv X pins σ (upd H1 d (.xd [(("at" : Str), v)])) ⟨G', g, dr, tk', os⟩ := I1.laid (t' := tk') old M.dbig ob
    refine ⟨e, oe, fv, ⟨G', g, dr, tk', os⟩, _, .ref C0, some d, rfl, J, fun b o q => ?_, ge, hoe, ⟨hc, hd⟩, hdat, h1, ?_, rfl, I1.bare, raises_own T.exC T.tyC, q1 d (I1.hok.fresh M.dbig)⟩
    · by_cases hb : b = e
      · have q' : G'.get? b = some o := q
        rw [hb, ge] at q'; cases q'
      · exact (gk b hb).symm.trans q
    · rw [upd_ne (Ne.symm M.dne)]
      exact I1.hok.fresh M.new
/-- the field of the error that the suite holds -/
def tAt (a dd : Addr) (te : TE) : TE := fun σ H Q => te σ H fun x H1 => x = .ref a ∧ ∃ (v : V), H1 dd = some (.xd [(("at" : Str), v)]) ∧ Q v H1
theorem pe_at {a dd : Addr} {oe : Obj} {pn : List (Addr × Obj)} {e : Expr} {te : TE} {pos : Pos} (T : PySem.OwX.ErrC X.K X.mg c C0 fI) (hz : Zc (.ref C0) (some dd) oe) (hf : ∃ vs, oe.data = .fields vs) (he : PE (X.suite a ((a, oe) :: pn)) e te)
    (hb : attributeBase e "at" X.env (eval e X.env) = eval e X.env := by rfl) :
    PE (X.suite a ((a, oe) :: pn)) (.Attribute e "at" pos) (tAt a dd te) := by
  refine ⟨fun pins s σ H Q I h => ?_⟩
  refine attr_of hb (thn (he.run pins s σ H _ I h) fun u s1 hh => ?_)
  obtain ⟨x, H1, I1, rx, ex, v, ea, q⟩ := hh
  subst ex
  obtain rfl : u = Value.ref a := rx
  obtain ⟨ha, _⟩ := I1.pin (a, oe) (List.mem_append_left _ List.mem_cons_self)
  obtain ⟨vs, hd⟩ := hf
  have hx : ObjOk X.prog X.w H1 s1.heap dd (.xd [(("at" : Str), v)]) := I1.hok dd _ ea
  obtain ⟨mA, hns, hr⟩ := hx
  obtain ⟨od, ho, hl⟩ := lookIn_ns hns
  have l : List.lookup ("at" : Str) [(("at" : Str), v)] = some v := by simp [List.lookup]
  obtain ⟨u, hu, ru⟩ := RelO.some_of (v := v) (o := mA "at") (by rw [← l]; exact hr "at")
  have J : PySem.W.InstAt s1.heap a oe C0 (some od) := ⟨ha, hz.1, by unfold PySem.W.notCls; rw [hd] <;> rfl, by rw [hz.2]; exact ho⟩
  exact HandSPX.exc_get I1.kIn J T.ga T.gg T.exC (PySem.W.findObj_own T.hdC T.noN rfl (by rw [hl, hu])) (handed_of ru) ⟨v, H1, I1.tok _, ru, q⟩
/-- what isinstance wants of the class of the error that the suite holds -/
structure ErrI (K : PySem.W.Frag) (D : Addr) : Prop where
  ha : PySem.W.findIn K (.ref D) "__class__" = some (some (.builtin "object.__class__"))
  hn : PySem.W.specialIn K (.builtin "object.__class__") "__get__" = some (some (.builtin "getset_descriptor.__get__"))
  ht : PySem.W.takesIn K (.builtin "object.__class__") = some true
  hm : PySem.W.mroIn K D (.type "object") = some true
def rIsX (K : PySem.W.Frag) (D a dd : Addr) : List V → Hp → VK → Prop := fun xs H Q => ∃ (c : V) (cv : Value) (b : Bool) (fs : List (Str × V)), xs = [.ref a, c] ∧ ClsV c cv ∧ H dd = some (.xd fs) ∧ PySem.W.kitOne K (.ref D) cv = some b ∧ Q (.bl b) H
def rIsXT (K : PySem.W.Frag) (D a dd : Addr) : List V → Hp → VK → Prop := fun xs H Q => ∃ (tp : Addr) (cs : List V) (us : List Value) (b : Bool) (fs : List (Str × V)), xs = [.ref a, .ref tp] ∧ H tp = some (.tup cs) ∧ Paired ClsV cs us ∧ H dd = some (.xd fs) ∧ PySem.W.kitAny K (.ref D) us = some b ∧ Q (.bl b) H
theorem inst_x {a D dd : Addr} {oe : Obj} {pn pins : List (Addr × Obj)} {σ : L2.St} {H : Hp} {s : Shared} {fs : List (Str × V)} (I : Inv (X.suite a ((a, oe) :: pn)) pins σ H s) (hz : Zc (.ref D) (some dd) oe) (hf : ∃ vs, oe.data = .fields vs) (hd : H dd = some (.xd fs)) :
    ∃ od : Obj, PySem.W.InstAt s.heap a oe D (some od) := by
  obtain ⟨ha, _⟩ := I.pin (a, oe) (List.mem_append_left _ List.mem_cons_self)
  obtain ⟨vs, hv⟩ := hf
  have hx : ObjOk X.prog X.w H s.heap dd (.xd fs) := I.hok dd _ hd
  obtain ⟨mA, hns, hr⟩ := hx
  obtain ⟨od, ho, hl⟩ := lookIn_ns hns
  exact ⟨od, ha, hz.1, by unfold PySem.W.notCls; rw [hv] <;> rfl, by rw [hz.2]; exact ho⟩
theorem call_isX {a dd : Addr} {oe : Obj} {pn : List (Addr × Obj)} (T : PySem.OwX.ErrC X.K X.mg c C0 fI) (J : ErrI X.K C0) (hz : Zc (.ref C0) (some dd) oe) (hf : ∃ vs, oe.data = .fields vs) : CallR (X.suite a ((a, oe) :: pn)) (.builtin "isinstance") (rIsX X.K C0 a dd) := by
  intro pins s σ H xs us Q I r ⟨cv0, cv, b, fs, e0, hcv, hdd, e, q⟩
  subst e0
  obtain ⟨u1, u2, rfl, r1, r2⟩ := vals2 r
  cases (show u1 = Value.ref a from r1)
  have ec := hcv.eq r2
  subst ec
  obtain ⟨od, hI⟩ := inst_x I hz hf hdd
  obtain ⟨nm, q', N, bs, bm, sn, sub, ab, col, d', k0, k1, k2, k3, k5, hC, hbm⟩ := T.cls
  have hcl : (PySem.W.clsIn X.K C0).isSome = true := by unfold PySem.W.clsIn; rw [hC] <;> rfl
  exact PySem.W.kia_one (PySem.W.kitx_exc hcl T.ga T.gg T.exC J.ha J.hn J.ht J.hm) I.kIn hI e (fun z => nomatch z) fun tk => ⟨.bl b, H, I.kept (t' := tk) fun _ _ z => z, rfl, q⟩
theorem call_isXT {a dd : Addr} {oe : Obj} {pn : List (Addr × Obj)} (T : PySem.OwX.ErrC X.K X.mg c C0 fI) (J : ErrI X.K C0) (hz : Zc (.ref C0) (some dd) oe) (hf : ∃ vs, oe.data = .fields vs) : CallR (X.suite a ((a, oe) :: pn)) (.builtin "isinstance") (rIsXT X.K C0 a dd) := by
  intro pins s σ H xs us Q I r ⟨tp, cs, ws, b, fs, e0, hT, k, hdd, e, q⟩
  subst e0
  obtain ⟨u1, u2, rfl, r1, r2⟩ := vals2 r
  cases (show u1 = Value.ref a from r1)
  cases (show u2 = Value.ref tp from r2)
  obtain ⟨_, its, rv, o, h1, h2, n, h3⟩ := (show ObjOk X.prog X.w H s.heap tp (.tup cs) from I.hok tp _ hT)
  have e3 := ClsV.all k rv
  subst e3
  obtain ⟨oc, od', dt, sl⟩ := o
  simp only at h2 h3
  subst h2 h3
  obtain ⟨od, hI⟩ := inst_x I hz hf hdd
  obtain ⟨nm, q', N, bs, bm, sn, sub, ab, col, d', k0, k1, k2, k3, k5, hC, hbm⟩ := T.cls
  have hcl : (PySem.W.clsIn X.K C0).isSome = true := by unfold PySem.W.clsIn; rw [hC] <;> rfl
  exact PySem.W.kia_tup (PySem.W.kitx_exc hcl T.ga T.gg T.exC J.ha J.hn J.ht J.hm) I.kIn hI h1 e (fun z => nomatch z) fun tk => ⟨.bl b, H, I.kept (t' := tk) fun _ _ z => z, rfl, q⟩
end
end Ow

set_option Elab.async false
set_option linter.all false
set_option maxRecDepth 100000
set_option maxHeartbeats 2000000
namespace Ow
open PySem PySem.Spec L2
set_option autoImplicit false

/-! ### a dict that is written out -/
def mergeD (l : List (Key × D)) : List (Key × D) := l.foldl (fun acc kv => dput acc kv.1 kv.2) []
def dPairs : List (Key × DE) → List (Key × D) → Env → (O → Env → Prop) → Prop
  | [], acc, ρ, P => P (.ok (.own (.dK (mergeD acc)))) ρ
  | (k, f) :: r, acc, ρ, P => f ρ fun o ρ1 => match o with
    | .ok r0 => dPairs r (acc ++ [(k, r0.d)]) ρ1 P
    | .ex c x => P (.ex c x) ρ1
def dDisp (l : List (Key × DE)) : DE := fun ρ P => dPairs l [] ρ P
def dispT (C : Pr) (l : List (Key × DE)) : List (TE × TE) := l.map fun kf => (lE C (dC (keyD kf.1)), lE C kf.2)
section
variable {C : Pr} {σ : L2.St}
theorem keyD_v {K : PySem.W.Frag} {F : Addr → Prop} {H : Hp} {v : V} {k : Key} (r : Rep K F H v (keyD k)) : v = kV k := by
  cases k <;> cases r <;> rfl
theorem RepK.mergeF {K : PySem.W.Frag} {F : Addr → Prop} {H : Hp} : ∀ {l : List (Key × V)} {d : List (Key × D)} {a : List (Key × V)} {b : List (Key × D)}, RepK K F H l d → RepK K F H a b → RepK K F H (mergeK a l) (d.foldl (fun acc kv => dput acc kv.1 kv.2) b)
  | _, _, _, _, .nil, s => s
  | _, _, _, _, .cons (k := k) r t, s => by
    have z := RepK.mergeF t (RepK.put (k := k) r s)
    exact z
theorem Ext.aside {ρ ρ' : Env} {F F' : Addr → Prop} {H H' : Hp} {p : Addr} {o : HO} (x : Ext σ ρ ρ' F H F' H') (h : H p = none) : Ext σ ρ ρ' F H F' (L2.upd H' p o) :=
  ⟨x.sub, fun a u e n => by rw [L2.upd_ne (ne_of_none e h)]; exact x.keep a u e n, x.new, x.own, fun a e => x.bk a (upd_bk a e)⟩
theorem lE_mono {f : DE} {H : Hp} {A B : VK} (h : lE C f σ H A) (k : ∀ v H', A v H' → B v H') : lE C f σ H B := by
  obtain ⟨ρ, F, P, R, hf, k1, k2⟩ := h
  exact ⟨ρ, F, P, R, hf, fun r ρ' p v H' F' x R' rs => k _ _ (k1 r ρ' p v H' F' x R' rs), k2⟩
theorem pairs_mono : ∀ {l : List (Key × DE)} {H : Hp} {A B : List (V × V) → Hp → Prop}, tPairs (dispT C l) σ H A → (∀ ps H', A ps H' → B ps H') → tPairs (dispT C l) σ H B
  | [], _, _, _, h, k => k _ _ h
  | (_, _) :: r, H, A, B, h, k => by
    have h' : lE C _ σ H _ := h
    refine lE_mono h' fun x H1 h1 => ?_
    have h1' : lE C _ σ H1 _ := h1
    exact lE_mono h1' fun y H2 h2 => pairs_mono (l := r) h2 fun ps H3 q => k _ _ q
theorem disp_go {p : Addr} {ρ0 : Env} {F0 : Addr → Prop} {Hb : Hp} {P : O → Env → Prop} {Q : VK} (hb : Hb p = none)
    (k1 : ∀ r ρ', P (.ok r) ρ' → ∀ v H' F', Ext σ ρ0 ρ' F0 Hb F' H' → Rel C F' H' σ ρ' → RepS C.K F' H' Hb v r → Q v H') (k2 : exP C σ ρ0 F0 Hb P) :
    ∀ (l : List (Key × DE)) (acc : List (Key × D)) (done : List (Key × V)) (ρ : Env) (F : Addr → Prop) (H : Hp), Ext σ ρ0 ρ F0 Hb F H → Rel C F H σ ρ → RepK C.K F H done acc → H p = some (.dK []) → ¬ F p → ¬ Own σ ρ p → C.H0 p = none →
    dPairs l acc ρ P → acc.length + l.length ≤ 15 →
    tPairs (dispT C l) σ H fun ps H2 => H2 p = some (.dK []) ∧ ∃ kvs : List (Key × V), ps = kvs.map (fun kv => (kV kv.1, kv.2)) ∧ (done ++ kvs).length ≤ 15 ∧ Q (.ref p) (upd H2 p (.dK (mergeK [] (done ++ kvs))))
  | [], acc, done, ρ, F, H, x, R, rk, hp, nF, nO, h0, h, hl => by
    refine ⟨hp, [], rfl, by rw [List.append_nil, rk.length]; simpa using hl, ?_⟩
    rw [List.append_nil]
    have K1 : Keeps C.K F H F (upd H p (.dK (mergeK [] done))) := keeps_upd nF hp (fun _ e => nomatch e) (fun _ _ e => nomatch e)
    have kp : ∀ b o, H b = some o → b ≠ p → (upd H p (.dK (mergeK [] done))) b = some o := fun b o q n => by rw [upd_ne n]; exact q
    have R2 : Rel C F (upd H p (.dK (mergeK [] done))) σ ρ := by
      refine ⟨R.len, fun i d e => let ⟨v, a, b⟩ := R.frz i d e; ⟨v, a, b.keep K1⟩, fun i s d e m => ?_, R.sep, R.bor, R.obor, fun b o e n => ?_, R.fnew, R.f0, fun b f => ?_, fun p' hp' => let ⟨x, b, c⟩ := R.pin p' hp'; ⟨x, K1.fz _ _ x b, c.keep K1⟩⟩
      · obtain ⟨b, x, y, w, z⟩ := R.mt i s d e m
        have ne : b ≠ p := fun q => nO ⟨i, s, d, e, m, by rw [← q]; exact x⟩
        exact ⟨b, x, y, w.keep K1 fun o q => kp b o q ne, z⟩
      · refine kp b o (R.ent b o e n) fun q => ?_
        subst q
        rw [h0] at e
        cases e
      · obtain ⟨o, ho⟩ := R.trk b f
        exact ⟨o, kp b o ho fun q => nF (q ▸ f)⟩
    exact k1 _ _ h _ _ F (x.aside hb) R2 ⟨p, rfl, nF, .dK upd_same (RepK.mergeF (rk.keep K1) .nil), hb⟩
  | (k, f) :: r, acc, done, ρ, F, H, x, R, rk, hp, nF, nO, h0, h, hl => by
    show lE C (dC (keyD k)) σ H _
    refine ⟨ρ, F, fun o ρ' => o = .ok (.frz (keyD k)) ∧ ρ' = ρ, R, ⟨rfl, rfl⟩, fun r0 ρ1 q v H1 F1 x1 R1 rs => ?_, fun c y ρ1 q => (by cases q.1)⟩
    obtain ⟨q1, q2⟩ := q
    cases q1
    subst q2
    have ev := keyD_v rs
    subst ev
    have hp1 : H1 p = some (.dK []) := x1.keep _ _ hp nO
    have nF1 : ¬ F1 p := fun z => by
      rcases x1.new _ z with z | z | z
      · exact nF z
      · rw [hp] at z; cases z
      · exact nO z
    have x01 := x.trans x1
    refine ⟨ρ1, F1, _, R1, h, fun r1 ρ2 q2 w H2 F2 x2 R2 rs2 => ?_, fun c y ρ2 q2 cls dd H2 F2 x2 R2 xo => k2 c y ρ2 q2 cls dd H2 F2 (x01.trans x2) R2 (xo.bk x01.bk)⟩
    obtain ⟨F3, x3, R3, rv⟩ := RepS.fz R1 x2 R2 rs2
    have hp3 : H2 p = some (.dK []) := x3.keep _ _ hp1 nO
    have nF3 : ¬ F3 p := fun z => by
      rcases x3.new _ z with z | z | z
      · exact nF1 z
      · rw [hp1] at z; cases z
      · exact nO z
    have nO3 : ¬ Own σ ρ2 p := fun z => nO (x3.own _ z)
    have rk3 : RepK C.K F3 H2 (done ++ [(k, w)]) (acc ++ [(k, r1.d)]) := ((rk.keep (x1.keeps R)).keep (x3.keeps R1)).append (.cons rv .nil)
    have ih := disp_go hb k1 k2 r (acc ++ [(k, r1.d)]) (done ++ [(k, w)]) ρ2 F3 H2 (x01.trans x3) R3 rk3 hp3 nF3 nO3 h0 q2 (by rw [List.length_append]; simp only [List.length_cons, List.length_nil] at hl ⊢; omega)
    refine pairs_mono ih fun ps H3 ⟨e1, kvs, e2, e3, e4⟩ => ⟨e1, (k, w) :: kvs, by rw [e2]; rfl, ?_, ?_⟩
    · rw [List.append_assoc] at e3
      exact e3
    · rw [List.append_assoc] at e4
      exact e4
end
section
variable {X : Cx} {C : Pr} {e : Expr} {pos : Pos} {f : DE}
/-- the keys and values as they stand -/
structure Pairs (X : Cx) (C : Pr) (pos : Pos) (keys : List (Option Expr)) (vals : List Expr) (l : List (Key × DE)) : Prop where
  pp : PPs X pos keys vals (dispT C l)
theorem pairs_nil : Pairs X C pos [] [] [] := ⟨pps_nil⟩
theorem pairs_cons {k : Expr} {key : Key} {ks : List (Option Expr)} {vs : List Expr} {l : List (Key × DE)} (hk : PE X k (lE C (dC (keyD key)))) (hv : PE X e (lE C f)) (hr : Pairs X C pos ks vs l) : Pairs X C pos (some k :: ks) (e :: vs) ((key, f) :: l) :=
  ⟨pps_cons hk hv hr.pp⟩
theorem je_disp {keys : List (Option Expr)} {vals : List Expr} {l : List (Key × DE)} (h : Pairs X C pos keys vals l) (hall : keys.all (·.isSome) = true) (hl : keys.length = vals.length) (h0 : keys ≠ []) (h15 : keys.length ≤ 15) (hn : l.length ≤ 15) : PE X (.Dict keys vals pos) (lE C (dDisp l)) :=
  PE.imp (pe_disp h.pp hall hl h0 h15) fun σ H Q ⟨ρ, F, P, R, hf, k1, k2⟩ => fun p hp => by
    have nF : ¬ F p := fun z => by
      obtain ⟨o, ho⟩ := R.trk _ z
      rw [hp] at ho
      cases ho
    have nO : ¬ Own σ ρ p := R.noown Ext.refl hp
    have z := disp_go (Q := Q) hp k1 k2 l [] [] ρ F (upd H p (.dK [])) (Ext.same (same_new hp)) (R.same (same_new hp)) .nil upd_same nF nO (R.h0 hp) hf (by simpa using hn)
    exact z
end

/-! ### calls that leave the objects as they are -/
def slotD (ρ : Env) (i : Nat) : Option D := match ρ[i]? with
  | some (some s) => some s.d
  | _ => none
def dNames : List Nat → DA := fun is ρ P => match is.mapM (slotD ρ) with
  | some ds => P (.ok ds) ρ
  | none => False
/-! values without objects that are changed -/
mutual
def D.flat : D → Bool
  | .non => true
  | .bl _ => true
  | .int _ => true
  | .str _ => true
  | .tup ds => flatL ds
  | .lst _ => false
  | .arr _ => false
  | .dK _ => false
  | .obj _ _ => false
  | .ptr _ => false
def flatL : List D → Bool
  | [] => true
  | d :: ds => d.flat && flatL ds
end
def dFnS (sp : DSp) (g : DA) : DE := daThen g fun ds ρ P => sp [] ds fun o _ => match o with
  | .ok (.frz d) => d.flat = true ∧ P (.ok (.frz d)) ρ
  | .ok _ => False
  | .ex _ _ => False
section
variable {X : Cx} {C : Pr} {e a b : Expr} {es : List Expr} {f fa fb : DE} {pos p : Pos} {x : Str} {i k : Nat} {g : DA} {sp : DSp} {fA : Addr} {fd : FuncData} {ps : List Str}
theorem ja_names_nil : PA X [] (lA1 C (dNames [])) := PA.imp pa_nil fun σ H Q ⟨ρ, F, P, R, hf, k1, k2⟩ => k1 [] ρ hf [] H F Ext.refl R .nil
theorem ja_names {is : List Nat} (hv : PE X e (tVar i)) (hr : PA X es (lA1 C (dNames is))) (hs : starEach (e :: es) X.env = (false, eval e X.env) :: starEach es X.env := by rfl) : PA X (e :: es) (lA1 C (dNames (i :: is))) :=
  PA.imp (pa_cons hv hr hs) fun σ H Q ⟨ρ, F, P, R, hf, k1, k2⟩ => by
    unfold dNames at hf
    split at hf
    · rename_i ds e
      rw [List.mapM_cons] at e
      cases q : ρ[i]? with
      | none =>
        have e0 : slotD ρ i = none := by unfold slotD; rw [q]
        rw [e0] at e; cases e
      | some o =>
        cases o with
        | none =>
          have e0 : slotD ρ i = none := by unfold slotD; rw [q]
          rw [e0] at e; cases e
        | some s =>
          have e0 : slotD ρ i = some s.d := by unfold slotD; rw [q]
          rw [e0] at e
          obtain ⟨v, hv, rv⟩ := R.rp1 q
          cases qr : is.mapM (slotD ρ) with
          | none =>
            have e' : ((is.mapM (slotD ρ)).bind fun r => some (s.d :: r)) = some ds := e
            rw [qr] at e'; cases e'
          | some dr =>
            have e' : ((is.mapM (slotD ρ)).bind fun r => some (s.d :: r)) = some ds := e
            rw [qr] at e'
            cases e'
            refine ⟨v, hv, ρ, F, fun ao ρ' => ao = .ok dr ∧ ρ' = ρ ∧ True, R, ?_, fun ds ρ' p2 vs H' F' x' R' rl => ?_, fun c y ρ' p2 => (by cases p2.1)⟩
            · unfold dNames
              rw [qr]
              exact ⟨rfl, rfl, True.intro⟩
            · obtain ⟨p3, p4, _⟩ := p2
              cases p3
              subst p4
              obtain ⟨v2, hv2, rv2⟩ := R'.rp1 q
              rw [hv] at hv2
              cases hv2
              exact k1 _ _ hf _ H' F' x' R' (.cons rv2 rl)
    · exact hf.elim
theorem rp1L_frz {K : PySem.W.Frag} {F F' : Addr → Prop} {H : Hp} (sub : ∀ a, F a → F' a) : ∀ {vs : List V} {ds : List D}, Rp1L K F H vs ds → (∀ a, V.ref a ∈ vs → (∃ o, H a = some o) → F' a) → RepL K F' H vs ds
  | _, _, .nil, _ => .nil
  | _, _, .cons r t, h => .cons (by
      rcases r with r | ⟨a, e, t⟩
      · exact r.keep (.more sub)
      · subst e
        obtain ⟨o, ho, _⟩ := t.at_
        exact (t.keep (.more sub) fun _ q => q).rep (h a List.mem_cons_self ⟨o, ho⟩)) (rp1L_frz sub t fun a ha => h a (List.mem_cons_of_mem _ ha))
mutual
theorem flat_rep {K : PySem.W.Frag} {F F' : Addr → Prop} {H : Hp} : ∀ {v : V} {d : D}, Rep K F H v d → d.flat = true → Rep K F' H v d
  | _, _, .non, _ => .non
  | _, _, .bl b, _ => .bl b
  | _, _, .int i, _ => .int i
  | _, _, .str x, _ => .str x
  | _, _, .lst _ _ _, h => by simp [D.flat] at h
  | _, _, .arr _ _, h => by simp [D.flat] at h
  | _, _, .tup hs r, h => .tup hs (flat_repL r (by simpa [D.flat] using h))
  | _, _, .dK _ _ _, h => by simp [D.flat] at h
  | _, _, .obj _ _ _, h => by simp [D.flat] at h
  | _, _, .ptr a, _ => .ptr a
theorem flat_repL {K : PySem.W.Frag} {F F' : Addr → Prop} {H : Hp} : ∀ {vs : List V} {ds : List D}, RepL K F H vs ds → flatL ds = true → RepL K F' H vs ds
  | _, _, .nil, _ => .nil
  | _, _, .cons r t, h => by
    simp only [flatL, Bool.and_eq_true] at h
    exact .cons (flat_rep r h.1) (flat_repL t h.2)
end
theorem en_fnS (hC : JC X C) {σ : L2.St} {H : Hp} {Q : VK} (h : lE C (dFnS sp g) σ H Q) : tCallS (lSp X.K sp) (WE C.W) (lA1 C g) σ H Q := by
  obtain ⟨ρ, F, P, R, hf, k1, k2⟩ := h
  refine sA1 R hf k2 fun ds ρ1 vs H1 F1 x R1 rl q => ?_
  rw [← hC.k]
  refine ⟨[], vs, [], ds, fun a => F1 a ∨ (V.ref a ∈ vs ∧ ∃ o, H1 a = some o), _, rfl, rp1L_frz (fun _ z => .inl z) rl (fun a ha ho => .inr ⟨ha, ho⟩), ⟨rfl, fun i a c h => by simp at h⟩, List.nodup_nil, fun a z => z.elim (R1.trk a) fun z => z.2, q, fun r cs' p v H' F' fx _ rs => ?_, fun c y cs' p cls dd H' F' fx _ xo => p.elim⟩
  split at p
  · rename_i d e
    cases e
    have sm : Same H1 H' := fun a o q => fx.keep a o q (by simp)
    exact k1 _ ρ1 p.2 v H' F1 (x.trans (Ext.same sm)) (R1.same sm) (flat_rep rs p.1)
  · exact p.elim
  · exact p.elim
theorem je_fnS (hC : JC X C) (Fn : FnOk X.prog X.w X.K X.mg X.base (L2.CX X.prog X.w) k fA fd ps (lSp X.K sp)) (hr : Room k X.A) (hg : Gl X x) (hm : X.mg x = some (.ref fA)) (hk : PySem.W.keepIn X.K (.ref fA) = true) (hb : Binds X.K fd ps [])
    (ha : PA X (e :: es) (lA1 C g)) (hdb : (x == ("__debug__" : Str)) = false := by decide) (he : starEach (e :: es) X.env = (false, eval e X.env) :: starEach es X.env := by rfl) (hpl : (backTo pos (starEach es X.env)).any (·.1) = false := by rfl) :
    PE X (.Call (.Name x p) (e :: es) [] pos) (lE C (dFnS sp g)) :=
  PE.imp (pe_callS Fn hr hg hm hk hb (fun σ => passAt hC.tk σ) ha hdb he hpl) fun _ _ _ h => en_fnS hC h
end
end Ow

set_option Elab.async false
set_option linter.all false
set_option maxRecDepth 100000
set_option maxHeartbeats 2000000
namespace Ow
open PySem PySem.Spec L2
set_option autoImplicit false

/-! ### own errors -/
structure ErrsOk (K : PySem.W.Frag) (mg : Str → Option Value) (es : List Str) (sub : Str → Str → Bool) (fI : Addr) : Prop where
  c : ∀ c ∈ es, PySem.OwX.ErrC K mg c (He.ga K c) fI
  i : ∀ c ∈ es, ErrI K (He.ga K c)
  s : ∀ c ∈ es, ∀ c2 ∈ es, PySem.W.kitOne K (.ref (He.ga K c)) (.ref (He.ga K c2)) = some (sub c c2)
  x : ∀ c ∈ es, ∀ c2 ∈ es, PySem.W.exmOne K (.ref (He.ga K c)) (.ref (He.ga K c2)) = some (sub c c2)
  v : ∀ c ∈ es, PySem.W.kitOne K (.ref (He.ga K c)) (.type "ValueError") = some true
def dRaise (c : Str) (g : DA) : DS := fun ρ P => g ρ fun ao ρ1 => match ao with
  | .ok [x] => P (.ex c x) ρ1
  | .ok _ => False
  | .ex c' x => P (.ex c' x) ρ1
section
variable {X : Cx} {C : Pr} {e a b : Expr} {es : List Expr} {f : DE} {g : DA} {pos p pos2 : Pos} {c : Str} {ers : List Str} {sub : Str → Str → Bool} {fI : Addr} {k : Nat}
theorem js_raise (hC : JC X C) (hc : X.calm = true) (E : ErrsOk X.K X.mg ers sub fI) (hm : c ∈ ers) (hr : Room k X.A) (ha : PA X [a] (lA C g)) (hg : Gl X c) (hdb : (c == ("__debug__" : Str)) = false := by decide)
    (he : starEach (a :: []) X.env = (false, eval a X.env) :: starEach [] X.env := by rfl) (hpl : (backTo pos (starEach [] X.env)).any (·.1) = false := by rfl) :
    PS X (.Raise (some (.Call (.Name c p) [a] [] pos)) none pos2) (lS C (dRaise c g)) :=
  PS.imp (ps_raise hc hC.tk (pmk_err (E.c c hm) hr ha hg hdb he hpl)) fun Dn σ H ⟨ρ, F, P, R, hf, k6⟩ => by
    refine ⟨ρ, F, _, R, hf, fun ds ρ1 q vs H1 F1 x R1 rl => ?_, fun c' y ρ1 q cls dd H1 F1 x R1 xo => k6.ex c' y ρ1 q cls dd σ H1 F1 (x.keeps R) R1 (xo.bk fun a z => R.h0 z)⟩
    split at q
    · rename_i x0 e0
      cases e0
      cases rl with
      | cons rv rn =>
        cases rn
        refine ⟨_, rfl, fun d hd => ?_⟩
        exact k6.ex c x0 ρ1 q _ d σ _ F1 ((x.keeps R).trans (keeps_same (same_new hd))) (R1.same (same_new hd)) ⟨by rw [hC.k], R1.h0 hd, _, upd_same, rv.keep (keeps_same (same_new hd))⟩
    · exact q.elim
    · rename_i e0
      cases e0
end
/-- as C, in a suite that holds an error whose own dict is at dd -/
def Pr.s (C : Pr) (dd : Addr) (v : V) (x : D) : Pr := { C with W := fun _ _ _ _ => False, pins := (dd, v, x) :: C.pins }
def Pr.w (C : Pr) (W : WX) : Pr := { C with W := W }
def dTry (ers : List Str) (sub : Str → Str → Bool) (cc : Str) (i : Nat) (fb : DS) (fs : Str → D → Addr → DS) : DS := fun ρ P => fb ρ fun so ρ1 => match so with
  | .ex c x => (c ∈ ers ∧ sub c cc = true) ∧ nbor ρ1[i]? ∧ ∀ a, fs c x a (ρ1.set i (some (.frz (.ptr a)))) fun so2 ρ2 => nbor ρ2[i]? ∧ match so2 with
    | .ex _ _ => False
    | .ret r => P (.ret r) ρ2
    | so2 => P so2 (ρ2.set i none)
  | so => P so ρ1
section
variable {C : Pr} {F F' : Addr → Prop} {H H' : Hp} {σ : L2.St} {ρ : Env} {W : WX} {dd : Addr} {v : V} {x : D}
theorem Rel.w (R : Rel C F H σ ρ) : Rel (C.w W) F H σ ρ := ⟨R.len, R.frz, R.mt, R.sep, R.bor, R.obor, R.ent, R.fnew, R.f0, R.trk, R.pin⟩
theorem Rel.unw (R : Rel (C.w W) F H σ ρ) : Rel C F H σ ρ := ⟨R.len, R.frz, R.mt, R.sep, R.bor, R.obor, R.ent, R.fnew, R.f0, R.trk, R.pin⟩
theorem Rel.s (R : Rel C F H σ ρ) (h0 : C.H0 dd = none) (hd : H dd = some (.xd [("at", v)])) (r : Rep C.K F H v x) : Rel (C.s dd v x) (fun a => F a ∨ a = dd) H σ ρ := by
  have R2 := R.more h0 ⟨_, hd⟩ fun ⟨i, s, d, h1, h2, h3⟩ => by
    obtain ⟨b, e1, _, t, _⟩ := R.mt i s d h1 h2
    rw [h3] at e1
    cases e1
    obtain ⟨o, ho, _, _, n⟩ := t.at_
    rw [hd] at ho
    cases ho
    exact n _ rfl
  refine ⟨R2.len, R2.frz, R2.mt, R2.sep, R2.bor, R2.obor, R2.ent, R2.fnew, R2.f0, R2.trk, fun p hp => ?_⟩
  rcases List.mem_cons.mp hp with e | hp
  · subst e
    exact ⟨.inr rfl, hd, r.keep (.more fun _ z => .inl z)⟩
  · exact R2.pin p hp
theorem Rel.uns (R : Rel (C.s dd v x) F H σ ρ) : Rel C F H σ ρ := ⟨R.len, R.frz, R.mt, R.sep, R.bor, R.obor, R.ent, R.fnew, R.f0, R.trk, fun p hp => R.pin p (List.mem_cons_of_mem _ hp)⟩
/-- a slot is left -/
theorem Rel.leave (R : Rel C F H σ ρ) {i : Nat} {u : Option V} (hn : nbor ρ[i]?) : Rel C F H (σ.set i u) (ρ.set i none) := by
  refine ⟨by rw [List.length_set, List.length_set]; exact R.len, fun j d hj => ?_, fun j s d hj m => ?_, fun j l s t d e b hj hl' m1 m2 q1 q2 => ?_, fun j b hj => ?_, fun j d hj => ?_, R.ent, R.fnew, R.f0, R.trk, R.pin⟩
  · rcases set_get hj with ⟨e, e2, _⟩ | ⟨e, hj⟩
    · cases e2
    · rw [get_set_ne e]; exact R.frz j d hj
  · rcases set_get hj with ⟨e, e2, _⟩ | ⟨e, hj⟩
    · cases e2
    · rw [get_set_ne e]; exact R.mt j s d hj m
  · rcases set_get hj with ⟨e1, e2, _⟩ | ⟨e1, hj⟩
    · cases e2
    · rcases set_get hl' with ⟨e3, e2, _⟩ | ⟨e3, hl'⟩
      · cases e2
      · rw [get_set_ne e1] at q1
        rw [get_set_ne e3] at q2
        exact R.sep j l s t d _ b hj hl' m1 m2 q1 q2
  · obtain ⟨x, d, y⟩ := R.bor j b hj
    have ne : j ≠ i := fun q => by
      subst q
      rw [y] at hn
      exact hn
    exact ⟨by rw [get_set_ne ne]; exact x, d, by rw [get_set_ne ne]; exact y⟩
  · rcases set_get hj with ⟨e, e2, _⟩ | ⟨e, hj⟩
    · cases e2
    · exact R.obor j d hj
end
section
variable {X : Cx} {C : Pr} {e : Expr} {body suite : List Stmt} {b₀ : Stmt} {np pos pos' : Pos} {cc n : Str} {i : Nat} {ers : List Str} {sub : Str → Str → Bool} {fI : Addr} {fb : DS} {fs : Str → D → Addr → DS}
theorem js_try (hC : JC X C) (E : ErrsOk X.K X.mg ers sub fI) (hcc : cc ∈ ers) (hs : X.stack = X.env :: X.outer) (hf : X.env.frame = some X.env.locals) (hN : X.N.Nodup) (hi : X.N[i]? = some n) (hln : X.env.kindOf n = some .local) (hg : Gl X cc)
    (hb : ∀ (W : WX) (pn : List (Addr × Obj)) (xe : Value → Shared → Prop), Takes (X.tr pn xe) W → PassesOwn (model X.prog X.w) X.A X.env xe → PSs (X.tr pn xe) body (lS (C.w W) fb))
    (hsu : ∀ (c : Str), c ∈ ers → ∀ (x : D) (v : V) (a dd : Addr) (oe : Obj) (pn : List (Addr × Obj)), Zc (.ref (He.ga X.K c)) (some dd) oe → (∃ vs, oe.data = .fields vs) → PSs (X.suite a ((a, oe) :: pn)) (b₀ :: suite) (lS (C.s dd v x) (fs c x a)))
    (hdb : (cc == ("__debug__" : Str)) = false := by decide) :
    PS X (.Try body [.ExceptHandler (some (.Name cc np)) (some n) (b₀ :: suite) pos'] [] [] pos) (lS C (dTry ers sub cc i fb fs)) := by
  refine PS.imp (ps_try_as hs hf hN hi hln ⟨hg, hdb, .inl (E.c cc hcc).gC⟩ hC.tk (tb := fun W => lS (C.w W) fb)
    (ts := fun a cls d Dn σ H => ∃ (c : Str) (x : D) (v : V) (dd : Addr), cls = .ref (He.ga X.K c) ∧ d = some dd ∧ c ∈ ers ∧ lS (C.s dd v x) (fs c x a) Dn σ H) hb ?_) ?_
  · intro a oe cls d pn hz hv
    refine ⟨fun pins s σ H Dn I ⟨c, x, v, dd, e1, e2, hc, q⟩ => ?_⟩
    subst e1 e2
    exact (hsu c hc x v a dd oe pn hz hv).run pins s σ H Dn I q
  · intro Dn σ H ⟨ρ, F, P, R, hf', k6⟩
    refine ⟨ρ, F, _, R.w, hf', ⟨fun ρ' p σ' H' F' kp R' => k6.nx ρ' p σ' H' F' kp R'.unw, fun ρ' p σ' H' F' kp R' => k6.brk ρ' p σ' H' F' kp R'.unw, fun ρ' p σ' H' F' kp R' => k6.cnt ρ' p σ' H' F' kp R'.unw, fun r ρ' p v σ' H' F' kp R' rs => k6.ret r ρ' p v σ' H' F' kp R'.unw rs, ?_⟩⟩
    intro c x ρ1 p cls dd σ' H' F' kp R' xo
    obtain ⟨⟨hc, hsub⟩, hn, q⟩ := p
    obtain ⟨e1, h0, v, hd, rv⟩ := xo
    have R1 := R'.unw
    have ek : C.K = X.K := hC.k
    have e1' : cls = .ref (He.ga X.K c) := by
      rw [← ek]
      exact e1
    clear e1
    subst e1'
    refine ⟨true, by rw [← hsub]; exact E.x c hc cc hcc, fun _ a ha => ?_, fun z => nomatch z⟩
    refine ⟨c, x, v, dd, rfl, rfl, hc, ρ1.set i (some (.frz (.ptr a))), fun b => F' b ∨ b = dd, _, ?_, q a, ?_⟩
    · have R2 := R1.s (dd := dd) (v := v) (x := x) h0 hd rv
      exact R2.put (r := .frz (.ptr a)) (Hs := H') hn (.ptr a) (fun a z => R2.h0 z) fun a z => R2.noown Ext.refl z
    · have kp2 : Keeps C.K F H (fun b => F' b ∨ b = dd) H' := kp.trans (.more fun _ z => .inl z)
      refine ⟨fun ρ' p σ2 H2 F2 k2 R2 => ?_, fun ρ' p σ2 H2 F2 k2 R2 => ?_, fun ρ' p σ2 H2 F2 k2 R2 => ?_, fun r ρ' p u σ2 H2 F2 k2 R2 rs => ?_, fun c' y ρ' p => p.2.elim⟩
      · exact k6.nx _ p.2 _ H2 F2 (kp2.trans k2) (R2.uns.leave p.1)
      · exact k6.brk _ p.2 _ H2 F2 (kp2.trans k2) (R2.uns.leave p.1)
      · exact k6.cnt _ p.2 _ H2 F2 (kp2.trans k2) (R2.uns.leave p.1)
      · exact k6.ret r _ p.2 u σ2 H2 F2 (kp2.trans k2) R2.uns rs
theorem jc_suite (hC : JC X C) {a dd : Addr} {pn : List (Addr × Obj)} {v : V} {x : D} : JC (X.suite a pn) (C.s dd v x) := ⟨hC.k, takes0⟩
theorem jc_tr (hC : JC X C) {W : WX} {pn : List (Addr × Obj)} {xe : Value → Shared → Prop} (tk : Takes (X.tr pn xe) W) : JC (X.tr pn xe) (C.w W) := ⟨hC.k, tk⟩
/-! what a suite asks of its error -/
def dAt (i : Nat) (a : Addr) (x : D) : DE := fun ρ P => ρ[i]? = some (some (.frz (.ptr a))) ∧ P (.ok (.frz x)) ρ
theorem je_at {a dd : Addr} {oe : Obj} {pn : List (Addr × Obj)} {v : V} {x : D} {c : Str} (hC : JC X C) (E : ErrsOk X.K X.mg ers sub fI) (hc : c ∈ ers) (hz : Zc (.ref (He.ga X.K c)) (some dd) oe) (hf : ∃ vs, oe.data = .fields vs)
    (he : PE (X.suite a ((a, oe) :: pn)) e (tVar i)) (hb : attributeBase e "at" X.env (eval e X.env) = eval e X.env := by rfl) : PE (X.suite a ((a, oe) :: pn)) (.Attribute e "at" pos) (lE (C.s dd v x) (dAt i a x)) :=
  PE.imp (pe_at (E.c c hc) hz hf he hb) fun σ H Q ⟨ρ, F, P, R, ⟨h1, h2⟩, k1, k2⟩ => by
    obtain ⟨w, hw, rw'⟩ := R.frz i _ h1
    cases rw'
    obtain ⟨p1, p2, p3⟩ := R.pin (dd, v, x) List.mem_cons_self
    exact ⟨_, hw, rfl, v, p2, k1 _ ρ h2 v H F Ext.refl R p3⟩
def dIsX (i : Nat) (a : Addr) (b : Bool) : DE := fun ρ P => ρ[i]? = some (some (.frz (.ptr a))) ∧ P (.ok (.frz (.bl b))) ρ
theorem je_isX {a dd : Addr} {oe : Obj} {pn : List (Addr × Obj)} {v : V} {x : D} {c c2 : Str} {e2 : Expr} {p : Pos} (hC : JC X C) (E : ErrsOk X.K X.mg ers sub fI) (hc : c ∈ ers) (hc2 : c2 ∈ ers) (hz : Zc (.ref (He.ga X.K c)) (some dd) oe) (hf : ∃ vs, oe.data = .fields vs)
    (hg : Gl (X.suite a ((a, oe) :: pn)) "isinstance") (hm : X.mg "isinstance" = none) (he : PE (X.suite a ((a, oe) :: pn)) e (tVar i)) (h2 : PE (X.suite a ((a, oe) :: pn)) e2 (tC (.ref (He.ga X.K c2))))
    (hs : starEach [e, e2] X.env = (false, eval e X.env) :: starEach [e2] X.env := by rfl) (hs2 : starEach [e2] X.env = (false, eval e2 X.env) :: starEach [] X.env := by rfl) (hpl : (backTo pos (starEach [e2] X.env)).any (·.1) = false := by rfl) :
    PE (X.suite a ((a, oe) :: pn)) (.Call (.Name "isinstance" p) [e, e2] [] pos) (lE (C.s dd v x) (dIsX i a (sub c c2))) :=
  PE.imp (pe_callB (call_isX (E.c c hc) (E.i c hc) hz hf) hg hm (by rfl) (pa_cons he (pa_cons h2 pa_nil hs2) hs) (by decide) (by decide) hs hpl) fun σ H Q ⟨ρ, F, P, R, ⟨h1, h2⟩, k1, k2⟩ => by
    obtain ⟨w, hw, rw'⟩ := R.frz i _ h1
    cases rw'
    obtain ⟨p1, p2, p3⟩ := R.pin (dd, v, x) List.mem_cons_self
    exact ⟨_, hw, _, _, _, _, rfl, .own _, p2, E.s c hc c2 hc2, k1 _ ρ h2 _ H F Ext.refl R (.bl _)⟩
theorem je_isV {a dd : Addr} {oe : Obj} {pn : List (Addr × Obj)} {v : V} {x : D} {c : Str} {e2 : Expr} {p : Pos} (hC : JC X C) (E : ErrsOk X.K X.mg ers sub fI) (hc : c ∈ ers) (hz : Zc (.ref (He.ga X.K c)) (some dd) oe) (hf : ∃ vs, oe.data = .fields vs)
    (hg : Gl (X.suite a ((a, oe) :: pn)) "isinstance") (hm : X.mg "isinstance" = none) (he : PE (X.suite a ((a, oe) :: pn)) e (tVar i)) (h2 : PE (X.suite a ((a, oe) :: pn)) e2 (tC (.ty "ValueError")))
    (hs : starEach [e, e2] X.env = (false, eval e X.env) :: starEach [e2] X.env := by rfl) (hs2 : starEach [e2] X.env = (false, eval e2 X.env) :: starEach [] X.env := by rfl) (hpl : (backTo pos (starEach [e2] X.env)).any (·.1) = false := by rfl) :
    PE (X.suite a ((a, oe) :: pn)) (.Call (.Name "isinstance" p) [e, e2] [] pos) (lE (C.s dd v x) (dIsX i a true)) :=
  PE.imp (pe_callB (call_isX (E.c c hc) (E.i c hc) hz hf) hg hm (by rfl) (pa_cons he (pa_cons h2 pa_nil hs2) hs) (by decide) (by decide) hs hpl) fun σ H Q ⟨ρ, F, P, R, ⟨h1, h2⟩, k1, k2⟩ => by
    obtain ⟨w, hw, rw'⟩ := R.frz i _ h1
    cases rw'
    obtain ⟨p1, p2, p3⟩ := R.pin (dd, v, x) List.mem_cons_self
    exact ⟨_, hw, _, _, _, _, rfl, .ty _, p2, E.v c hc, k1 _ ρ h2 _ H F Ext.refl R (.bl _)⟩
structure ClsRow (X : Cx) (es : List Expr) (cs : List Str) : Prop where
  pa : ∃ t : TA, PA X es t ∧ ∀ σ H Q, Q (cs.map fun c => V.ref (He.ga X.K c)) H → t σ H Q
theorem clsrow_nil : ClsRow X [] [] := ⟨⟨_, pa_nil, fun _ _ _ q => q⟩⟩
theorem clsrow_cons {c : Str} {cs : List Str} {es : List Expr} (h : PE X e (tC (.ref (He.ga X.K c)))) (hr : ClsRow X es cs) (hs : starEach (e :: es) X.env = (false, eval e X.env) :: starEach es X.env := by rfl) : ClsRow X (e :: es) (c :: cs) := by
  obtain ⟨t, h1, h2⟩ := hr.pa
  exact ⟨⟨_, pa_cons h h1 hs, fun σ H Q q => h2 σ H _ q⟩⟩
theorem own_row {K : PySem.W.Frag} : ∀ cs : List Str, Paired ClsV (cs.map fun c => V.ref (He.ga K c)) (cs.map fun c => Value.ref (He.ga K c))
  | [] => .nil
  | _ :: r => .cons (.own _) (own_row r)
theorem sub_any (E : ErrsOk X.K X.mg ers sub fI) {c : Str} (hc : c ∈ ers) : ∀ {cs : List Str}, (∀ d ∈ cs, d ∈ ers) → PySem.W.kitAny X.K (.ref (He.ga X.K c)) (cs.map fun c => .ref (He.ga X.K c)) = some (cs.any (sub c))
  | [], _ => rfl
  | d :: cs, h => by
    refine kitAny_cons (E.s c hc d (h d List.mem_cons_self)) (fun z => ?_) fun z => ?_
    · rw [sub_any E hc fun d hd => h d (List.mem_cons_of_mem _ hd), List.any_cons, z, Bool.false_or]
    · rw [List.any_cons, z, Bool.true_or]
theorem je_isXT {a dd : Addr} {oe : Obj} {pn : List (Addr × Obj)} {v : V} {x : D} {c : Str} {cs : List Str} {es : List Expr} {kk : Nat} {p tpos : Pos} (hC : JC X C) (E : ErrsOk X.K X.mg ers sub fI) (hc : c ∈ ers) (hcs : ∀ d ∈ cs, d ∈ ers) (hz : Zc (.ref (He.ga X.K c)) (some dd) oe) (hf : ∃ vs, oe.data = .fields vs)
    (hg : Gl (X.suite a ((a, oe) :: pn)) "isinstance") (hm : X.mg "isinstance" = none) (he : PE (X.suite a ((a, oe) :: pn)) e (tVar i)) (hb : ClsRow (X.suite a ((a, oe) :: pn)) es cs) (hsz : cs.length ≤ 1000)
    (hs : starEach [e, .Tuple es kk tpos] X.env = (false, eval e X.env) :: starEach [.Tuple es kk tpos] X.env := by rfl) (hs2 : starEach [.Tuple es kk tpos] X.env = (false, eval (.Tuple es kk tpos) X.env) :: starEach [] X.env := by rfl) (hpl : (backTo pos (starEach [.Tuple es kk tpos] X.env)).any (·.1) = false := by rfl) :
    PE (X.suite a ((a, oe) :: pn)) (.Call (.Name "isinstance" p) [e, .Tuple es kk tpos] [] pos) (lE (C.s dd v x) (dIsX i a (cs.any (sub c)))) := by
  obtain ⟨t, t1, t2⟩ := hb.pa
  refine PE.imp (pe_callB (call_isXT (E.c c hc) (E.i c hc) hz hf) hg hm (by rfl) (pa_cons he (pa_cons (pe_tup t1) pa_nil hs2) hs) (by decide) (by decide) hs hpl) fun σ H Q ⟨ρ, F, P, R, ⟨h1, h2⟩, k1, k2⟩ => ?_
  obtain ⟨w, hw, rw'⟩ := R.frz i _ h1
  cases rw'
  obtain ⟨p1, p2, p3⟩ := R.pin (dd, v, x) List.mem_cons_self
  refine ⟨_, hw, t2 _ _ _ ⟨by rw [List.length_map, sizeLine_eq]; omega, fun tp htp => ?_⟩⟩
  exact ⟨tp, _, _, _, _, rfl, upd_same, own_row cs, same_new htp _ _ p2, sub_any E hc hcs, k1 _ ρ h2 _ _ F (Ext.same (same_new htp)) (R.same (same_new htp)) (.bl _)⟩
end
end Ow

set_option Elab.async false
set_option linter.all false
set_option maxRecDepth 100000
set_option maxHeartbeats 2000000
namespace Ow
open PySem PySem.Spec L2
set_option autoImplicit false

/-! ### a def holds its promise -/
/-- what a def's body leans on -/
structure JX (X : Cx) (C : Pr) (k : Nat) : Prop where
  jc : JC X C
  po : PassesOwn (model X.prog X.w) X.A X.env X.xe
  calm : X.calm = true
  room : Room k X.A
theorem JX.u1 {X : Cx} {C : Pr} {k : Nat} (j : JX X C k) : X.A.units + 1 < cLine := by have := j.room.un; omega
theorem JX.u64 {X : Cx} {C : Pr} {k : Nat} (j : JX X C k) : X.A.units + 64 < cLine := by have := j.room.un; omega
theorem JX.u65 {X : Cx} {C : Pr} {k : Nat} (j : JX X C k) : X.A.units + 65 < cLine := by have := j.room.un; omega
theorem JX.u80 {X : Cx} {C : Pr} {k : Nat} (j : JX X C k) : X.A.units + 80 < cLine := by have := j.room.un; omega
/-- the slots at the entry -/
def startD (N : List Str) (cs ds : List D) : Env := cs.map (fun d => some (.bor d)) ++ ds.map (fun d => some (.frz d)) ++ List.replicate (N.length - (cs.length + ds.length)) none
/-- the borrowed objects' contents -/
def outs (nb : Nat) (ρ : Env) : List D := (ρ.take nb).map fun o => match o with
  | some s => s.d
  | none => .non
def endP (nb : Nat) (P : O → List D → Prop) : SO → Env → Prop := fun so ρ => match so with
  | .nx => P (.ok (.frz .non)) (outs nb ρ)
  | .ret r => P (.ok r) (outs nb ρ)
  | .ex c x => P (.ex c x) (outs nb ρ)
  | .brk => False
  | .cnt => False
theorem RepL.rep_at {K : PySem.W.Frag} {F : Addr → Prop} {H : Hp} {vs : List V} {ds : List D} (r : RepL K F H vs ds) {i : Nat} {d : D} (h : ds[i]? = some d) : ∃ v, vs[i]? = some v ∧ Rep K F H v d := r.get h
section
variable {P0 : Program} {w : World} {K : PySem.W.Frag} {mg : Str → Option Value} {base : Heap} {x qual : Str} {params : Arguments} {body : List Stmt} {scope : Scope} {f : Addr} {fd : FuncData} {N ps : List Str} {k : Nat}
theorem nodup_at {α : Type} : ∀ {l : List α}, l.Nodup → ∀ {i j : Nat} {a : α}, l[i]? = some a → l[j]? = some a → i = j
  | [], _, i, j, a, h1, _ => by simp at h1
  | x :: l, nd, 0, 0, a, h1, h2 => rfl
  | x :: l, nd, 0, j + 1, a, h1, h2 => by
    simp at h1 h2
    subst h1
    exact absurd (List.mem_of_getElem? h2) (List.nodup_cons.mp nd).1
  | x :: l, nd, i + 1, 0, a, h1, h2 => by
    simp at h1 h2
    subst h2
    exact absurd (List.mem_of_getElem? h1) (List.nodup_cons.mp nd).1
  | x :: l, nd, i + 1, j + 1, a, h1, h2 => by
    simp at h1 h2
    rw [nodup_at (List.nodup_cons.mp nd).2 h1 h2]
/-- the entry's slots, read -/
theorem start_rel {C : Pr} {N : List Str} {as : List Addr} {ws : List V} {cs ds : List D} {F : Addr → Prop} {H : Hp} (e1 : C.bs = as) (e2 : C.H0 = H) (e3 : C.F0 = F) (e4 : C.pins = []) (ta : TopAll C.K F H as cs) (nd : as.Nodup) (trk : ∀ a, F a → ∃ o, H a = some o) (rl : RepL C.K F H ws ds)
    (hN : cs.length + ds.length ≤ N.length) : Rel C F H (L2.start N (as.map V.ref ++ ws)) (startD N cs ds) := by
  have hl : as.length = cs.length := ta.1
  have hw : ws.length = ds.length := rl.length
  have gD : ∀ {i : Nat} {s : SV}, (startD N cs ds)[i]? = some (some s) → (∃ d, cs[i]? = some d ∧ s = .bor d) ∨ (cs.length ≤ i ∧ ∃ d, ds[i - cs.length]? = some d ∧ s = .frz d) := fun {i s} h => by
    unfold startD at h
    rw [List.append_assoc] at h
    by_cases h1 : i < cs.length
    · rw [List.getElem?_append_left (by simpa using h1), List.getElem?_map] at h
      cases e : cs[i]? with
      | none => rw [e] at h; cases h
      | some d => rw [e] at h; cases h; exact .inl ⟨d, rfl, rfl⟩
    · rw [List.getElem?_append_right (by simpa using h1), List.length_map] at h
      by_cases h2 : i - cs.length < ds.length
      · rw [List.getElem?_append_left (by simpa using h2), List.getElem?_map] at h
        cases e : ds[i - cs.length]? with
        | none => rw [e] at h; cases h
        | some d => rw [e] at h; cases h; exact .inr ⟨by omega, d, rfl, rfl⟩
      · rw [List.getElem?_append_right (by simpa using h2), List.getElem?_replicate] at h
        split at h
        · cases h
        · cases h
  have gV1 : ∀ {i : Nat} {a : Addr}, as[i]? = some a → (L2.start N (as.map V.ref ++ ws))[i]? = some (some (.ref a)) := fun {i a} h => by
    unfold L2.start
    have hi := lt_of_get h
    rw [List.getElem?_append_left (by simp; omega), List.getElem?_map, List.getElem?_append_left (by simpa using hi), List.getElem?_map, h]
    rfl
  have gV2 : ∀ {i : Nat} {v : V}, cs.length ≤ i → ws[i - cs.length]? = some v → (L2.start N (as.map V.ref ++ ws))[i]? = some (some v) := fun {i v} h0 h => by
    unfold L2.start
    have hi := lt_of_get h
    rw [List.getElem?_append_left (by simp; omega), List.getElem?_map, List.getElem?_append_right (by simp; omega)]
    simp only [List.length_map, hl, h]
    rfl
  refine ⟨?_, fun i d h => ?_, fun i s d h m => ?_, fun i j s t d e a h1 h2 m1 m2 q1 q2 => ?_, fun i a h => ?_, fun i d h => ?_, fun a o h _ => by rw [← e2]; exact h, fun a h => .inl (by rw [e3]; exact h), fun a h => by rw [e3] at h; exact h, trk, fun p hp => ?_⟩
  · unfold L2.start startD
    simp only [List.length_append, List.length_map, List.length_replicate, hl, hw]
  · rcases gD h with ⟨d', _, e⟩ | ⟨h0, d', hd, e⟩
    · cases e
    · cases e
      obtain ⟨v, hv, rv⟩ := rl.get hd
      exact ⟨v, gV2 h0 hv, rv⟩
  · rcases gD h with ⟨d', hd, e⟩ | ⟨h0, d', hd, e⟩
    · subst e
      cases m
      have hi : i < as.length := by rw [hl]; exact lt_of_get hd
      have ha : as[i]? = some as[i] := List.getElem?_eq_getElem hi
      obtain ⟨n, t⟩ := ta.2 i _ d ha hd
      exact ⟨_, gV1 ha, n, t, .inl (by rw [e1]; exact List.getElem_mem hi)⟩
    · subst e
      cases m
  · rcases gD h1 with ⟨d', hd, e'⟩ | ⟨h0, d', hd, e'⟩
    · rcases gD h2 with ⟨d2, hd2, e2'⟩ | ⟨h0, d2, hd2, e2'⟩
      · have hi : i < as.length := by rw [hl]; exact lt_of_get hd
        have hj : j < as.length := by rw [hl]; exact lt_of_get hd2
        have ha : as[i]? = some as[i] := List.getElem?_eq_getElem hi
        have hb : as[j]? = some as[j] := List.getElem?_eq_getElem hj
        rw [gV1 ha] at q1
        rw [gV1 hb] at q2
        cases q1
        have e5 : as[j] = as[i] := by
          have z := Option.some.inj (Option.some.inj q2)
          exact V.ref.inj z
        rw [e5] at hb
        exact nodup_at nd ha hb
      · subst e2'
        cases m2
    · subst e'
      cases m1
  · rw [e1] at h
    have hi : i < cs.length := by rw [← hl]; exact lt_of_get h
    refine ⟨gV1 h, cs[i], ?_⟩
    unfold startD
    rw [List.append_assoc, List.getElem?_append_left (by simpa using hi), List.getElem?_map, List.getElem?_eq_getElem hi]
    rfl
  · rcases gD h with ⟨d', hd, e⟩ | ⟨h0, d', hd, e⟩
    · have hi : i < as.length := by rw [hl]; exact lt_of_get hd
      exact ⟨as[i], by rw [e1]; exact List.getElem?_eq_getElem hi⟩
    · cases e
  · rw [e4] at hp
    cases hp
theorem outs_top {C : Pr} {F : Addr → Prop} {H : Hp} {σ : L2.St} {ρ : Env} {as : List Addr} (R : Rel C F H σ ρ) (e1 : C.bs = as) : TopAll C.K F H as (outs as.length ρ) := by
  have hle : as.length ≤ ρ.length := by
    rcases Nat.lt_or_ge ρ.length as.length with h | h
    · obtain ⟨_, d, h2⟩ := R.bor ρ.length as[ρ.length] (by rw [e1]; exact List.getElem?_eq_getElem h)
      exact absurd (lt_of_get h2) (Nat.lt_irrefl _)
    · exact h
  refine ⟨by unfold outs; rw [List.length_map, List.length_take]; omega, fun i a c ha hc => ?_⟩
  have hi := lt_of_get ha
  obtain ⟨h1, d, h2⟩ := R.bor i a (by rw [e1]; exact ha)
  obtain ⟨b, g1, g2, g3, _⟩ := R.mt i _ d h2 rfl
  rw [h1] at g1
  cases g1
  have ec : c = d := by
    unfold outs at hc
    rw [List.getElem?_map, List.getElem?_take, if_pos hi, h2] at hc
    cases hc
    rfl
  subst ec
  exact ⟨g2, g3⟩
theorem fn_okD {sp : DSp} {r : DS} {nb : Nat} (Fd : FunD K x qual params body scope [] [] f fd) (S : FnScope N ps scope)
    (hd : ∀ (cdv : Value) (A : Around) (outer : List PySem.Env) (s : Shared) (H : Hp) (E : XK) (C : Pr), JX (cxOf (L2.CX P0 w) P0 w K mg base N qual scope f cdv A outer s H E) C k → PSs (cxOf (L2.CX P0 w) P0 w K mg base N qual scope f cdv A outer s H E) body (lS C r))
    (hsp : ∀ cs ds P, sp cs ds P → cs.length = nb ∧ cs.length + ds.length = ps.length ∧ r (startD N cs ds) (endP nb P)) :
    FnOk P0 w K mg base (L2.CX P0 w) (k + 1) f fd ps (lSp K sp) := by
  refine Fd.ok S (fun vs H Q E h => ?_) fun cdv A outer s H vs Q E hr h => ?_
  · obtain ⟨as, ws, cs, ds, F, P, e, rl, ta, nd, trk, q, k1, k2⟩ := h
    obtain ⟨_, h2, _⟩ := hsp cs ds P q
    rw [e, List.length_append, List.length_map, ta.1, rl.length]
    exact h2
  · obtain ⟨as, ws, cs, ds, F, P, e, rl, ta, nd, trk, q, k1, k2⟩ := h
    refine ⟨lS { K := K, H0 := H, F0 := F, bs := as, W := fun cls d _ H => E cls d H, pins := [] } r, hd cdv A outer s H E _ ⟨⟨rfl, takes_of rfl rfl rfl rfl⟩, passes_of rfl, rfl, hr⟩, ?_⟩
    obtain ⟨h1, h2, h3⟩ := hsp cs ds P q
    have hps : ps.length ≤ N.length := by
      have := congrArg List.length S.pre
      rw [List.length_take] at this
      omega
    have R := start_rel (C := { K := K, H0 := H, F0 := F, bs := as, W := fun cls d _ H => E cls d H, pins := [] }) (N := N) rfl rfl rfl rfl ta nd trk rl (by omega)
    refine ⟨startD N cs ds, F, endP nb P, by rw [e]; exact R, h3, ?_⟩
    have fx : ∀ {σ' : L2.St} {ρ' : Env} {H' : Hp} {F' : Addr → Prop}, Keeps K F H F' H' → Rel { K := K, H0 := H, F0 := F, bs := as, W := fun cls d _ H => E cls d H, pins := [] } F' H' σ' ρ' → Fx as F H F' H' ∧ TopAll K F' H' as (outs nb ρ') := fun {σ' ρ' H' F'} kp R' =>
      ⟨⟨kp.sub, fun a o h n => R'.ent a o h n, fun a h => R'.fnew a h, R'.trk, fun a h => R'.h0 h⟩, by rw [← h1, ← ta.1]; exact outs_top R' rfl⟩
    refine ⟨fun ρ' p σ' H' F' kp R' => ?_, fun ρ' p => p.elim, fun ρ' p => p.elim, fun r ρ' p v σ' H' F' kp R' rs => ?_, fun c y ρ' p cls dd σ' H' F' kp R' xo => ?_⟩
    · obtain ⟨f1, f2⟩ := fx kp R'
      exact k1 _ _ p .non H' F' f1 f2 .non
    · obtain ⟨f1, f2⟩ := fx kp R'
      exact k1 _ _ p v H' F' f1 f2 rs
    · obtain ⟨f1, f2⟩ := fx kp R'
      exact k2 _ _ _ p cls dd H' F' f1 f2 xo
/-- a def that may be called by its name, with its promise -/
structure FnI (P0 : Program) (w : World) (K : PySem.W.Frag) (mg : Str → Option Value) (base : Heap) (k : Nat) (x : Str) (ps : List Str) (sp : DSp) : Prop where
  ex : ∃ (f : Addr) (fd : FuncData), mg x = some (.ref f) ∧ PySem.W.keepIn K (.ref f) = true ∧ Binds K fd ps [] ∧ FnOk P0 w K mg base (L2.CX P0 w) k f fd ps (lSp K sp)
theorem fnI_mk {sp : DSp} {r : DS} {nb : Nat} (Fd : FunD K x qual params body scope [] [] f fd) (hm : mg x = some (.ref f)) (hb : Binds K fd ps []) (S : FnScope N ps scope)
    (hd : ∀ (cdv : Value) (A : Around) (outer : List PySem.Env) (s : Shared) (H : Hp) (E : XK) (C : Pr), JX (cxOf (L2.CX P0 w) P0 w K mg base N qual scope f cdv A outer s H E) C k → PSs (cxOf (L2.CX P0 w) P0 w K mg base N qual scope f cdv A outer s H E) body (lS C r))
    (hsp : ∀ cs ds P, sp cs ds P → cs.length = nb ∧ cs.length + ds.length = ps.length ∧ r (startD N cs ds) (endP nb P)) : FnI P0 w K mg base (k + 1) x ps sp :=
  ⟨⟨f, fd, hm, Fd.kp, hb, fn_okD Fd S hd hsp⟩⟩
theorem FnI.mono {sp : DSp} {k j : Nat} (F : FnI P0 w K mg base k x ps sp) (h : k ≤ j) : FnI P0 w K mg base j x ps sp := by
  obtain ⟨f, fd, h1, h2, h3, h4⟩ := F.ex
  exact ⟨⟨f, fd, h1, h2, h3, h4.mono h⟩⟩
end
section
variable {X : Cx} {C : Pr} {e a b : Expr} {es : List Expr} {f fa fb : DE} {pos p : Pos} {x : Str} {i k : Nat} {g : DA} {sp : DSp} {ps : List Str}
theorem jf (hC : JC X C) (Fn : FnI X.prog X.w X.K X.mg X.base k x ps sp) (hr : Room k X.A) (hg : Gl X x)
    (ha : PA X (e :: es) (lA C g)) (hdb : (x == ("__debug__" : Str)) = false := by decide) (he : starEach (e :: es) X.env = (false, eval e X.env) :: starEach es X.env := by rfl) (hpl : (backTo pos (starEach es X.env)).any (·.1) = false := by rfl) :
    PE X (.Call (.Name x p) (e :: es) [] pos) (lE C (dFn sp g)) := by
  obtain ⟨f, fd, h1, h2, h3, h4⟩ := Fn.ex
  exact je_fn hC h4 hr hg h1 h2 h3 ha hdb he hpl
theorem jfB (hC : JC X C) (Fn : FnI X.prog X.w X.K X.mg X.base k x ps sp) (hr : Room k X.A) (hg : Gl X x)
    (hv : PE X e (tVar i)) (ha : PA X es (lA C g)) (hdb : (x == ("__debug__" : Str)) = false := by decide) (he : starEach (e :: es) X.env = (false, eval e X.env) :: starEach es X.env := by rfl) (hpl : (backTo pos (starEach es X.env)).any (·.1) = false := by rfl) :
    PE X (.Call (.Name x p) (e :: es) [] pos) (lE C (dFnB sp i g)) := by
  obtain ⟨f, fd, h1, h2, h3, h4⟩ := Fn.ex
  exact je_fnB hC h4 hr hg h1 h2 h3 hv ha hdb he hpl
theorem jfS (hC : JC X C) (Fn : FnI X.prog X.w X.K X.mg X.base k x ps sp) (hr : Room k X.A) (hg : Gl X x)
    (ha : PA X (e :: es) (lA1 C g)) (hdb : (x == ("__debug__" : Str)) = false := by decide) (he : starEach (e :: es) X.env = (false, eval e X.env) :: starEach es X.env := by rfl) (hpl : (backTo pos (starEach es X.env)).any (·.1) = false := by rfl) :
    PE X (.Call (.Name x p) (e :: es) [] pos) (lE C (dFnS sp g)) := by
  obtain ⟨f, fd, h1, h2, h3, h4⟩ := Fn.ex
  exact je_fnS hC h4 hr hg h1 h2 h3 ha hdb he hpl
end
end Ow

set_option Elab.async false
set_option linter.all false
set_option maxRecDepth 100000
set_option maxHeartbeats 4000000
namespace Ow
open PySem PySem.Spec L2
set_option autoImplicit false

/-! ### sorted(xs, key = an own def) -/
section
variable {X : Cx} {pins : List (Addr × Obj)} {s : Shared} {σ : L2.St} {H : Hp} {h' : Heap}
/-- several records of ours have changed -/
theorem Inv.turnedM {t' : Nat} {ch : List Addr} (I : Inv X pins σ H s) (k : ∀ b o, b ∉ ch → s.heap.get? b = some o → h'.get? b = some o) (hf : ∀ b ∈ ch, FpOk X pins H b) : Inv X pins σ H { s with heap := h', toks := t' } := by
  have nit : ∀ b u, H b = some u → b ∉ ch := fun b u e z => by
    have q := (hf b z).1
    rw [q] at e; cases e
  refine I.step (g' := s.gens) (d' := s.drawn) (ch := ch) (fun b hb => ⟨(hf b hb).2.2.2.1, (hf b hb).2.1, (hf b hb).2.2.2.2.1, (hf b hb).2.2.2.2.2⟩) (fun b o _ _ hc e _ => k b o hc e) (fun b o _ _ hc e _ => ⟨o.slots, k b o hc e⟩)
    (fun _ _ _ _ n => n) (fun b o hc e => ⟨o, k b o hc e⟩) (fun _ _ e => e) (fun _ _ _ e => e) (fun b ps e => ⟨#[], by rw [e]; simp⟩) (fun m hm => ?_) (fun b u e => ?_) I.bare
  · obtain ⟨o, es, ep, ho, r⟩ := hm
    exact ⟨o, es, ep, k _ o (fun z => (hf _ z).2.1 rfl) ho, r⟩
  · refine (I.hok b u e).stay (fun c v hc q => k c v ?_ q) (fun _ q => q) fun _ _ q => q
    rcases hc with z | z
    · rw [z]; exact nit b u e
    · exact nit c _ z
/-- a record of ours is tracked from now on -/
theorem Inv.track {a : Addr} {o : HO} (I : Inv X pins σ H s) (hf : FpOk X pins H a) (new : ObjOk X.prog X.w (upd H a o) s.heap a o) : Inv X pins σ (upd H a o) s :=
  I.call' (ch := [a]) rfl ⟨fun b o e _ _ _ => e, fun b o e _ _ _ => ⟨o.slots, e⟩, fun b o e n hx => by rw [upd_ne (show b ≠ a from fun z => hx (by simp [z]))]; exact n, fun b o e _ => ⟨o, e⟩,
    fun b xs e => by rw [upd_ne (ne_of_none e hf.1)]; exact e, fun b o u e => by rw [upd_ne (ne_of_none e hf.1)]; exact e, fun b ps e => ⟨#[], by rw [upd_ne (ne_of_none e hf.1), e]; simp⟩⟩ (HOk.laidN I.hok (fun _ _ e => e) hf.1 new) I.bare
    fun b hb => by
      have e : b = a := by simpa using hb
      subst e
      exact ⟨hf.2.2.2.1, hf.2.1, hf.2.2.2.2.1, hf.2.2.2.2.2⟩
/-- the context of what a built-in calls -/
abbrev _root_.L2.Cx.in2 (X : Cx) : Cx := { X with A := X.A.in1.in1, xe := fun _ _ => False }
theorem inv_in2 (I : Inv X pins σ H s) : Inv X.in2 pins σ H s :=
  ⟨⟨I.ok.mod, I.ok.kind, I.ok.glob, I.ok.blt, I.ok.above, I.ok.inj, I.ok.has, I.ok.cab, I.ok.hd, I.ok.frames, I.ok.stk, I.ok.exf, I.ok.bs, I.ok.bsz, I.ok.noex, I.ok.exfs, I.ok.funs, I.ok.frf⟩, I.os, I.bare, I.base, I.loc, I.cell, I.free, I.freeC, I.pin, I.hok, I.len⟩
theorem inv_out2 (ok : X.Ok) (I : Inv X.in2 pins σ H s) : Inv X pins σ H s := ⟨ok, I.os, I.bare, I.base, I.loc, I.cell, I.free, I.freeC, I.pin, I.hok, I.len⟩
end
/-- sorted by a key -/
def srtBy (key : D → D) (l : List D) : List D := l.mergeSort (PySem.W.dataLe false fun d => (key d).py)
def KeyOk (l : List D) (key : D → D) : Prop := (∀ d ∈ l, (key d).pur = true) ∧ PySem.W.AllAlike (l.map fun d => (key d).py) ∧ PySem.W.Sortable (l.map fun d => (key d).py) ∧ l.length ≤ sizeLine ∧ ∀ d ∈ l, (key d).py.depth < 64
theorem Fx.nil_trans {F F' F2 : Addr → Prop} {H H' H2 : Hp} (a : Fx [] F H F' H') (b : Fx [] F' H' F2 H2) : Fx [] F H F2 H2 :=
  ⟨fun x h => b.sub x (a.sub x h), fun x o h n => b.keep x o (a.keep x o h n) n, fun x h => (b.new x h).elim (a.new x) fun z => .inr (a.bk x z), b.trk, fun x h => a.bk x (b.bk x h)⟩
theorem Fx.same {F F' : Addr → Prop} {H H' : Hp} (a : Fx [] F H F' H') : Same H H' := fun x o h => a.keep x o h (by simp)
theorem Fx.keeps {K : PySem.W.Frag} {F F' : Addr → Prop} {H H' : Hp} (a : Fx [] F H F' H') : Keeps K F H F' H' := ⟨a.sub, fun x o _ h => a.same x o h, fun x o h _ => a.same x o h⟩
theorem each_at {α β : Type} {R : α → β → Prop} : ∀ {as : List α} {bs : List β} {i : Nat} {a : α} {b : β}, PySem.W.EachIs R as bs → as[i]? = some a → bs[i]? = some b → R a b
  | _, _, i, _, _, .nil, h, _ => by simp at h
  | _, _, 0, _, _, .cons r _, h1, h2 => by simp at h1 h2; subst h1 h2; exact r
  | _, _, i + 1, _, _, .cons _ t, h1, h2 => each_at (i := i) t (by simpa using h1) (by simpa using h2)
section
variable {X : Cx} {pins : List (Addr × Obj)} {s : Shared} {σ : L2.St} {H : Hp} {F : Addr → Prop} {Q : VK}
theorem keys_reads {pins' : List (Addr × Obj)} {H' : Hp} {F' : Addr → Prop} {s' : Shared} (I : Inv X pins' σ H' s') : ∀ {xk : List V} {kz : List D} {us : List Value}, Vals xk us → RepL X.K F' H' xk kz → (∀ d ∈ kz, d.pur = true) →
    PySem.W.EachIs (fun v d => ∃ as, Reads s'.heap v d as) us (kz.map D.py)
  | _, _, _, .nil, .nil, _ => .nil
  | _, _, _, .cons q u, .cons r t, hp => .cons (Rp1.reads I (.inl r) (hp _ List.mem_cons_self) q) (keys_reads I u t fun d hd => hp d (List.mem_cons_of_mem _ hd))
theorem pin2 {X : Cx} {kS a : Addr} {o1 o2 : Obj} (I : Inv X pins σ H s) (fk : FpOk X pins H kS) (fa : FpOk X pins H a) (hk : s.heap.get? kS = some o1) (ha : s.heap.get? a = some o2) (d1 : ∀ v, o1.data ≠ .cell v) (d2 : ∀ v, o2.data ≠ .cell v) :
    Inv X ((kS, o1) :: (a, o2) :: pins) σ H s := I.pins_of fun p hp => by
  rcases List.mem_cons.mp hp with e | hp
  · subst e
    exact ⟨hk, fk.1, fk.2.1, fk.2.2.1, d1⟩
  · rcases List.mem_cons.mp hp with e | hp
    · subst e
      exact ⟨ha, fa.1, fa.2.1, fa.2.2.1, d2⟩
    · exact I.pin p (List.mem_append_right _ hp)
theorem unpin2 {X : Cx} {p1 p2 : Addr × Obj} (I : Inv X (p1 :: p2 :: pins) σ H s) : Inv X pins σ H s := I.pins_of fun p hp => I.pin p (List.mem_append_right _ (List.mem_cons_of_mem _ (List.mem_cons_of_mem _ hp)))
theorem sorted_key_list {sp : DSp} {key : D → D} {k : Nat} {fA l0 : Addr} {fd : FuncData} {p : Str} {xs : List V} {l : List D} (hr : Room (k + 2) X.A) (Fn : FnOk X.prog X.w X.K X.mg X.base (L2.CX X.prog X.w) k fA fd [p] (lSp X.K sp)) (hb : Binds X.K fd [p] [])
    (I : Inv X pins σ H s) (trk : ∀ a, F a → ∃ o, H a = some o) (hs : SqL X.K H l0 xs) (rl : RepL X.K F H xs l) (hk : ∀ d ∈ l, ∀ P : O → List D → Prop, P (.ok (.frz (key d))) [] → sp [] [d] P) (ok : KeyOk l key)
    (q : ∀ u H', Same H H' → RepN X.K F H' H u (.own (.lst (srtBy key l))) → Q u H') :
    wpAny (model X.prog X.w) X.A (call (.builtin "sorted") [.ref l0] [(Str.ofString "key", .ref fA)]) (EP X pins σ Q) X.xe s := by
  obtain ⟨its, rv, hl, hz⟩ := I.list hs
  obtain ⟨p1, p2, p3, p4, p5⟩ := ok
  have hlen : its.length = l.length := by rw [← rv.length, rl.length]
  have e1 := rl.each (vs := its) rv
  refine PySem.W.sorted_of_sort hl.isList (by rw [hlen]; exact p4) (PyProof.Rows.ksk_s1 _ _) (fun _ => PyProof.Rows.ksk_l1 _ _) fun E' => ?_
  rw [PyProof.Rows.ksk_t1]
  generalize ha : s.heap.objs.size + 1 = a
  have hcopy : (PySem.W.copyHeap s.heap its).get? a = some (PyProof.Rows.seqObj "list" its.toArray 0) := by rw [← ha]; exact PySem.W.copyHeap_at s.heap its
  have haN : s.heap.objs.size ≤ a := by rw [← ha]; exact Nat.le_succ _
  have haL : a < (PySem.W.copyHeap s.heap its).objs.size := Heap.lt_size hcopy
  obtain ⟨en, ho1⟩ : ∃ e1, ((PySem.W.copyHeap s.heap its).update a (Obj.mapSeq fun _ => (#[] : Array Value))).get? a = some (PyProof.Rows.seqObj "list" #[] e1) := ⟨_, PyProof.Rows.get?_update_seq hcopy fun _ => #[]⟩
  have hkS' : (((PySem.W.copyHeap s.heap its).update a (Obj.mapSeq fun _ => (#[] : Array Value))).push (PyProof.Rows.seqObj "tuple" its.toArray 0)).objs.size = (PySem.W.copyHeap s.heap its).objs.size + 1 := by rw [PyProof.Rows.size_push', Heap.size_update]
  unfold PyProof.Rows.ksk_tree
  refine wpAny_bind (PyProof.Rows.listItems_at hcopy rfl ?_)
  refine wpAny_bind (PyProof.Rows.listUpdate_at hcopy rfl ?_ (by rw [List.size_toArray, hlen]; exact p4) (Nat.zero_le _))
  refine wpAny_bind (PyProof.Rows.seqEpoch_at ho1 rfl ?_)
  refine wpAny_bind (wpAny_newTuple ?_ (by show its.length ≤ _; rw [hlen]; exact p4))
  refine wpAny_bind (wpAny_newList ?_ (Nat.zero_le _))
  refine wpAny_holding ?_
  have hk0 : ((((PySem.W.copyHeap s.heap its).update a (Obj.mapSeq fun _ => (#[] : Array Value))).push (PyProof.Rows.seqObj "tuple" its.toArray 0)).push (PyProof.Rows.seqObj "list" #[] 0)).get? (((PySem.W.copyHeap s.heap its).update a (Obj.mapSeq fun _ => (#[] : Array Value))).push (PyProof.Rows.seqObj "tuple" its.toArray 0)).objs.size = some (PyProof.Rows.seqObj "list" #[] 0) := Heap.get?_push_size _ rfl
  have ha0 : ((((PySem.W.copyHeap s.heap its).update a (Obj.mapSeq fun _ => (#[] : Array Value))).push (PyProof.Rows.seqObj "tuple" its.toArray 0)).push (PyProof.Rows.seqObj "list" #[] 0)).get? a = some (PyProof.Rows.seqObj "list" #[] en) := Heap.get?_push_of_some _ (Heap.get?_push_of_some _ ho1)
  have kp0 : ∀ b o, s.heap.get? b = some o → ((((PySem.W.copyHeap s.heap its).update a (Obj.mapSeq fun _ => (#[] : Array Value))).push (PyProof.Rows.seqObj "tuple" its.toArray 0)).push (PyProof.Rows.seqObj "list" #[] 0)).get? b = some o := fun b o e => by
    have z := PySem.W.sorting_copy_old (vs := its) e
    rw [ha] at z
    exact z
  generalize hg : (((PySem.W.copyHeap s.heap its).update a (Obj.mapSeq fun _ => (#[] : Array Value))).push (PyProof.Rows.seqObj "tuple" its.toArray 0)).push (PyProof.Rows.seqObj "list" #[] 0) = g at hk0 ha0 kp0
  generalize hkS : (((PySem.W.copyHeap s.heap its).update a (Obj.mapSeq fun _ => (#[] : Array Value))).push (PyProof.Rows.seqObj "tuple" its.toArray 0)).objs.size = kS at hk0 hkS'
  have hka : kS ≠ a := by omega
  have hkN : s.heap.objs.size ≤ kS := by omega
  show wpAny (model X.prog X.w) X.A.in1.in1 (PyProof.Rows.ksk_rest a (.ref fA) false its.toArray en (.ref kS)) _ E' { s with heap := g }
  have fk : FpOk X.in2 pins H kS := (inv_in2 I).fpOk hkN (I.hok.fresh hkN)
  have fa : FpOk X.in2 pins H a := (inv_in2 I).fpOk haN (I.hok.fresh haN)
  have I2 : Inv X.in2 pins σ H { s with heap := g } := inv_in2 (I.kept (t' := s.toks) kp0)
  have nc : ∀ (ys : Array Value) (n : Nat) v, (PyProof.Rows.seqObj "list" ys n).data ≠ .cell v := fun _ _ _ z => (nomatch z)
  unfold PyProof.Rows.ksk_rest
  refine wpAny_bind (wpAny_rule ?_)
  first
    | rw [List.forIn_toArray]
    | (rw [← Array.forIn_toList]; simp only [List.toList_toArray])
    | rw [← Array.forIn_toList]
  refine wpAny_bind (PyProof.Rows.ksk_fold (fun i s' => ∃ (kA : Array Value) (e : Nat) (F' : Addr → Prop) (H' : Hp) (xk : List V), Inv X.in2 ((kS, PyProof.Rows.seqObj "list" kA e) :: (a, PyProof.Rows.seqObj "list" #[] en) :: pins) σ H' s' ∧ Fx [] F H F' H' ∧ Vals xk kA.toList ∧ RepL X.K F' H' xk ((l.take i).map key)) its 0 { s with heap := g }
    ⟨#[], 0, F, H, [], pin2 I2 fk fa hk0 ha0 (nc _ _) (nc _ _), ⟨fun _ z => z, fun _ _ z _ => z, fun _ z => .inl z, trk, fun _ z => z⟩, .nil, by rw [List.take_zero]; exact .nil⟩ ?step ?done)
  case step =>
    rintro j x s' hx ⟨kA, e, F', H', xk, I', fx, rk, rlk⟩
    simp only [Nat.zero_add] at rlk ⊢
    have hj : j < its.length := (List.getElem?_eq_some_iff.mp hx).1
    have hjl : j < l.length := by rw [← hlen]; exact hj
    have hd : l[j]? = some l[j] := List.getElem?_eq_getElem hjl
    obtain ⟨x0, rx, rep⟩ := each_at e1 hx hd
    have run := run_fnS (X := X.in2) (E := fun _ _ _ _ => False) (Q := fun v H2 => ∃ F2, Fx [] F' H' F2 H2 ∧ Rep X.K F2 H2 v (key l[j])) Fn (show Room k X.A.in1.in1 from (show Room (k + 1) X.A.in1 from hr.in1).in1) hb
      (fun _ _ _ _ _ _ z => by obtain ⟨_, _, _, _, _, _, _, _, _, _, _, _, z⟩ := z; exact z) I' (.cons rx .nil)
      ⟨[], [x0], [], [l[j]], F', fun o cs => o = .ok (.frz (key l[j])) ∧ cs = [], rfl, .cons (rep.keep fx.keeps) .nil, ⟨rfl, fun i a c h => by simp at h⟩, List.nodup_nil, fx.trk, hk _ (List.getElem_mem hjl) _ ⟨rfl, rfl⟩,
        fun r cs' p v H2 F2 fx2 _ rs => by cases p.1; exact ⟨F2, fx2, rs⟩, fun c y cs' p => by cases p.1⟩
    refine wpAny_bind (wpAny_attempt (wpAny_mono run (fun v s'' he => ?_) fun _ _ hF => hF.elim))
    obtain ⟨x', H2, I3, rx', F2, fx2, rep2⟩ := he
    try dsimp only
    have nk2 : s''.heap.get? kS = some (PyProof.Rows.seqObj "list" kA e) := (I3.pin (kS, _) (List.mem_append_right _ List.mem_cons_self)).1
    have hn2 : H2 kS = none := (I3.pin (kS, _) (List.mem_append_right _ List.mem_cons_self)).2.1
    have na2 : s''.heap.get? a = some (PyProof.Rows.seqObj "list" #[] en) := (I3.pin (a, _) (List.mem_append_right _ (List.mem_cons_of_mem _ List.mem_cons_self))).1
    have hna2 : H2 a = none := (I3.pin (a, _) (List.mem_append_right _ (List.mem_cons_of_mem _ List.mem_cons_self))).2.1
    have s1 := Heap.SameBut.update s''.heap kS (Obj.mapSeq (·.push v))
    obtain ⟨c2, hc2⟩ : ∃ c2, (s''.heap.update kS (Obj.mapSeq (·.push v))).get? kS = some (PyProof.Rows.seqObj "list" (kA.push v) c2) := ⟨_, PyProof.Rows.get?_update_seq nk2 (·.push v)⟩
    have hsz : kA.size = j := by
      have h3 : kA.toList.length = min j l.length := by rw [← rk.length, rlk.length, List.length_map, List.length_take]
      rw [Array.length_toList] at h3
      omega
    have hz2 : kA.size ≤ sizeLine := by rw [hsz]; omega
    have hz3 : (kA.push v).size ≤ sizeLine + 1 := by rw [Array.size_push]; omega
    refine wpAny_bind (PyProof.Rows.listUpdate_at nk2 rfl ?_ hz2 hz3)
    have I4 : Inv X.in2 pins σ H2 { s'' with heap := s''.heap.update kS (Obj.mapSeq (·.push v)) } :=
      Inv.turnedM (t' := s''.toks) (ch := [kS]) (unpin2 I3) (fun b o hb e => (s1.2 b (fun z => hb (by simp [z]))).trans e) fun b hb => by
        have e : b = kS := by simpa using hb
        subst e
        exact ⟨hn2, fk.2⟩
    have ek : (l.take (j + 1)).map key = (l.take j).map key ++ [key l[j]] := by rw [List.take_add_one, hd, List.map_append]; rfl
    have ea : (kA.push v).toList = kA.toList ++ [v] := by simp
    refine wpAny_pure ⟨rfl, kA.push v, c2, F2, H2, xk ++ [x'], pin2 I4 ⟨hn2, fk.2⟩ ⟨hna2, fa.2⟩ hc2 ((s1.2 a hka.symm).trans na2) (nc _ _) (nc _ _), fx.nil_trans fx2, ?_, ?_⟩
    · rw [ea]
      exact rk.append (.cons rx' .nil)
    · rw [ek]
      exact (rlk.keep fx2.keeps).append (.cons rep2 .nil)
  case done =>
    rintro s' ⟨kA, e, F', H', xk, I', fx, rk, rlk⟩
    have e3 : l.take (0 + its.length) = l := List.take_of_length_le (by omega)
    rw [e3] at rlk
    have nk2 : s'.heap.get? kS = some (PyProof.Rows.seqObj "list" kA e) := (I'.pin (kS, _) (List.mem_append_right _ List.mem_cons_self)).1
    have hn2 : H' kS = none := (I'.pin (kS, _) (List.mem_append_right _ List.mem_cons_self)).2.1
    have na2 : s'.heap.get? a = some (PyProof.Rows.seqObj "list" #[] en) := (I'.pin (a, _) (List.mem_append_right _ (List.mem_cons_of_mem _ List.mem_cons_self))).1
    have hna2 : H' a = none := (I'.pin (a, _) (List.mem_append_right _ (List.mem_cons_of_mem _ List.mem_cons_self))).2.1
    have hkr := keys_reads I' rk rlk (fun d hd => by
      obtain ⟨d0, h0, rfl⟩ := List.mem_map.mp hd
      exact p1 d0 h0)
    rw [List.map_map] at hkr
    have hsz : kA.size = its.length := by
      have h1 := hkr.length
      rw [Array.length_toList, List.length_map] at h1
      omega
    obtain ⟨G, g1, g2⟩ := restrict s'.heap fun b => decide (b ≠ kS)
    have gN : G.get? kS = none := g2 kS (by simp)
    have gE : ∀ b, b ≠ kS → G.get? b = s'.heap.get? b := fun b hb => g1 b (decide_eq_true hb)
    have kpG : PySem.W.KeepsBut a G s'.heap := fun b o hb e => by
      by_cases hbk : b = kS
      · rw [hbk, gN] at e; cases e
      · rw [← gE b hbk]; exact e
    try dsimp only
    refine wpAny_bind (PyProof.Rows.listItems_at nk2 rfl ?_)
    refine PySem.W.keyH_end (κ := PySem.W.dataKind s'.heap (l.map (D.py ∘ key))) (h₁ := G) kpG gN nk2 na2 hka (PySem.W.SortsAt.data hkr p2 p3 (fun d hd => ?_)) hsz (by rw [hlen]; exact p4) fun h3 tk3 c k3 n3 => ⟨rfl, ?_⟩
    · obtain ⟨d0, h0, rfl⟩ := List.mem_map.mp hd
      have z1 := p5 d0 h0
      have z2 := hr.un
      show X.A.units + 1 + 1 + (key d0).py.depth < cLine
      omega
    · have eo := PySem.W.keyedOut_each (rev := false) (fun d => (key d).py) ⟨s'.heap, kA.toList, p2, rfl, hkr⟩ e1
      obtain ⟨ys, rv2, r2⟩ := each_repL eo
      have I5 : Inv X pins σ H' s' := inv_out2 I.ok (unpin2 I')
      have fk' : FpOk X pins H' kS := ⟨hn2, fk.2⟩
      have fa' : FpOk X pins H' a := ⟨hna2, fa.2⟩
      have I6 : Inv X pins σ H' { s' with heap := h3, toks := tk3 } := Inv.turnedM (ch := [kS, a]) I5 (fun b o hb e => k3 b o (fun z => hb (by simp [z])) (by rw [gE b (fun z => hb (by simp [z]))]; exact e)) fun b hb => by
        have e : b = kS ∨ b = a := by simpa using hb
        rcases e with e | e
        · rw [e]; exact fk'
        · rw [e]; exact fa'
      have hlen2 : ys.length ≤ sizeLine := by rw [r2.length, List.length_mergeSort]; exact p4
      have ob : ObjOk X.prog X.w (upd H' a (.lst ys)) h3 a (.lst ys) := ⟨hlen2, _, c, rv2, n3⟩
      have I7 : Inv X pins σ (upd H' a (.lst ys)) { s' with heap := h3, toks := tk3 } := Inv.track I6 fa' ob
      have hnH : H a = none := I.hok.fresh haN
      have sm : Same H (upd H' a (.lst ys)) := fun b o e => by
        rw [upd_ne (ne_of_none e hnH)]
        exact fx.same b o e
      exact ⟨.ref a, _, I7, rfl, q _ _ sm ⟨a, rfl, .lst upd_same (r2.keep (keeps_same sm)), hnH⟩⟩
end
end Ow

set_option Elab.async false
set_option linter.all false
set_option maxRecDepth 100000
set_option maxHeartbeats 4000000
namespace Ow
open PySem PySem.Spec L2
set_option autoImplicit false

def keyAns (sp : DSp) (l : List D) (P : SV → Prop) : Prop := ∃ key : D → D, (∀ d ∈ l, ∀ P : O → List D → Prop, P (.ok (.frz (key d))) [] → sp [] [d] P) ∧ KeyOk l key ∧ P (.own (.lst (srtBy key l)))
def oSortK (sp : DSp) : OpN := fun ds P => match ds with
  | [.lst l] => keyAns sp l P
  | [.arr l] => keyAns sp l P
  | _ => False
def rSortK (K : PySem.W.Frag) (sp : DSp) (fA : Addr) : List V → List V → Hp → VK → Prop := fun xs zs H Q => zs = [.ref fA] ∧ ∃ (F : Addr → Prop) (ds : List D) (P : SV → Prop), (∀ a, F a → ∃ o, H a = some o) ∧ Rp1L K F H xs ds ∧ oSortK sp ds P ∧ ∀ s, P s → ∀ u H', Same H H' → RepN K F H' H u s → Q u H'
section
variable {X : Cx} {C : Pr} {e : Expr} {es : List Expr} {g : DA} {sp : DSp} {k : Nat} {x y : Str} {p p2 kpos pos : Pos} {ps : List Str} {fA : Addr} {fd : FuncData}
theorem c_sortK (hr : Room (k + 2) X.A) {q : Str} (Fn : FnOk X.prog X.w X.K X.mg X.base (L2.CX X.prog X.w) k fA fd [q] (lSp X.K sp)) (hb : Binds X.K fd [q] []) : CallRK X (.builtin "sorted") [Str.ofString "key"] (rSortK X.K sp fA) := by
  intro pins s σ H xs zs us ws Q I r rz ⟨ez, F, ds, P, trk, rl, h, kk⟩
  subst ez
  cases rz with
  | cons rz rn =>
    cases rn
    rename_i w
    have ew : w = .ref fA := rz
    subst ew
    unfold oSortK keyAns at h
    split at h
    · obtain ⟨key, h1, h2, h3⟩ := h
      obtain ⟨x, rfl, r1⟩ := rl.one
      obtain ⟨a, ys, rfl, hx, rr⟩ := r1.lst
      rw [Vals.ref1 r]
      exact sorted_key_list hr Fn hb I trk (.of hx) rr h1 h2 fun u H' sm rn => kk _ h3 u H' sm rn
    · obtain ⟨key, h1, h2, h3⟩ := h
      obtain ⟨x, rfl, r1⟩ := rl.one
      obtain ⟨a, ys, rfl, hx, rr⟩ := r1.arr
      rw [Vals.ref1 r]
      exact sorted_key_list hr Fn hb I trk hx rr h1 h2 fun u H' sm rn => kk _ h3 u H' sm rn
    · exact h.elim
theorem je_sortK (hC : JC X C) {q : Str} (Fn : FnI X.prog X.w X.K X.mg X.base k y [q] sp) (hr : Room (k + 2) X.A) (hgy : Gl X y) (hg : Gl X "sorted") (hm : X.mg "sorted" = none) (ha : PA X [e] (lA1 C g)) (hdby : (y == ("__debug__" : Str)) = false := by decide)
    (he : backTo pos (starEach (e :: []) X.env) = (false, eval e X.env) :: backTo pos (starEach [] X.env) := by rfl) (hpl : (backTo pos (starEach (e :: []) X.env)).any (·.1) = false := by rfl) :
    PE X (.Call (.Name "sorted" p) [e] [⟨some (Str.ofString "key"), .Name y p2, kpos⟩] pos) (lE C (dCall (oSortK sp) g)) := by
  obtain ⟨fA, fd, h1, h2, h3, h4⟩ := Fn.ex
  have hk : PK X [⟨some (Str.ofString "key"), .Name y p2, kpos⟩] (tCons (tC (.ref fA)) tNil) := pk_cons (pe_glob hgy h1 (show RelV (.ref fA) (.ref fA) from rfl) hdby) pk_nil
  refine PE.imp (pe_callBK (c_sortK hr h4 h3) hg hm (by rfl) ha hk (by decide) (by decide) he hpl) fun σ H Q ⟨ρ, F, P, R, hf, k1, k2⟩ => ?_
  refine sA1 R hf k2 fun ds ρ1 vs H1 F1 x R1 rl q => ?_
  refine ⟨rfl, F1, ds, _, R1.trk, ?_, q, fun s ps u H' sm rn => k1 s ρ1 ps u H' F1 (x.trans (Ext.same sm)) (R1.same sm) (((?_ : RepN C.K F1 H' H1 u s).reps R1.trk).bk x.bk)⟩
  · rw [← hC.k]; exact rl
  · rw [hC.k]; exact rn
end
end Ow

set_option Elab.async false
set_option linter.all false
set_option maxRecDepth 100000
set_option maxHeartbeats 4000000
namespace Ow
open PySem PySem.Spec L2
set_option autoImplicit false

/-! ### enumerate(a text) -/
def Ites (x : Str) : It := ⟨fun i _ => i < x.cps.size, fun i H v H' => ∃ (T : Addr) (c : Nat), v = .ref T ∧ H T = none ∧ H' = upd H T (.tup [.int (i : Nat), .str ⟨#[c]⟩]) ∧ x.cps[i]? = some c, fun i _ => x.cps.size ≤ i⟩
theorem turn_enumS {P : Program} {w : World} {K : PySem.W.Frag} {elts : List Expr} {kk : Nat} {tpos : Pos} (e it : Addr) (x : Str) (t : Tok) (ty : String) (hty : ty = "str_ascii_iterator" ∨ ty = "str_iterator") :
    Turn P w K (.Tuple elts kk tpos) (Ites x) [e, it] e (fun i h => (∃ old, IsEnum h e it ((i : Nat) : Int) old) ∧ h.IsStrIter it ty x t i ∧ e ≠ it) where
  mem := by simp
  obj := fun i h st b hb => by
    obtain ⟨⟨old, he⟩, ⟨o, ho, hc, hd⟩, _⟩ := st
    have e' : b = e ∨ b = it := by simpa using hb
    rcases e' with z | z
    · rw [z]; exact ⟨_, he, fun v q => nomatch q⟩
    · rw [z]; exact ⟨o, ho, fun v q => by rw [hd] at q; cases q⟩
  keep := fun i h h' st k => let ⟨⟨old, he⟩, ⟨o, ho, r⟩, hne⟩ := st; ⟨⟨old, k e (by simp) _ he⟩, ⟨o, k it (by simp) _ ho, r⟩, hne⟩
  item := by
    intro X hP hw hK hc i pins s σ H E I hf st hg
    subst hP hw hK
    obtain ⟨⟨old, he⟩, hit, hne⟩ := st
    have hel : e < s.heap.objs.size := Heap.lt_size he
    have hil : it < s.heap.objs.size := by obtain ⟨_, q, _⟩ := hit; exact Heap.lt_size q
    have D : Draws X.prog X.w X.A.in1 it [it] x.cps.size (fun i v => ∃ c u, x.cps[i]? = some c ∧ v = .str ⟨#[c]⟩ u) (fun i h => h.IsStrIter it ty x t i) := by
      rcases hty with z | z
      · rw [z]; exact Draws.strAscii (A := X.A.in1) (I.ok.hd hc) it x t
      · rw [z]; exact Draws.strWide (A := X.A.in1) (I.ok.hd hc) it x t
    refine wpAny_pyNext_enum_itemD D he hit hg hne (by simpa using hne) fun u h' tk hu ho hit' hT hsz hk => ?_
    obtain ⟨c, tu, hcx, rfl⟩ := hu
    refine ⟨_, rfl, wpAny_letOwnedTupleGo_enum (s := { s with heap := h', toks := tk + 1 }) ho fun h'' he' sb => ?_⟩
    have hT2 : h''.get? s.heap.objs.size = some { cls := .type "tuple", data := .seq #[.int i tk, .str ⟨#[c]⟩ tu] } := (sb.2 _ (Nat.ne_of_gt hel)).trans hT
    have new : ObjOk X.prog X.w (upd H s.heap.objs.size (.tup [.int (i : Nat), .str ⟨#[c]⟩])) h'' s.heap.objs.size (.tup [.int (i : Nat), .str ⟨#[c]⟩]) :=
      ⟨by show 2 ≤ sizeLine; decide, [.int i tk, .str ⟨#[c]⟩ tu], .cons ⟨_, rfl⟩ (.cons ⟨_, rfl⟩ .nil), ⟨_, hT2, rfl, _, rfl⟩⟩
    have I1 : Inv X pins σ (upd H s.heap.objs.size (.tup [.int (i : Nat), .str ⟨#[c]⟩])) { s with heap := h'', toks := tk + 1 } :=
      I.turnedNew (ch := [e, it]) (fun b ob hb q => (sb.2 b (fun z => hb (by simp [z]))).trans (hk b ob (fun z => hb (by simp [z])) (fun z => hb (by simp [z])) q)) hf (Nat.le_refl _) new
    refine ⟨.ref s.heap.objs.size, _, I1, rfl, ⟨_, c, rfl, I.hok.fresh (Nat.le_refl _), rfl, hcx⟩, ⟨⟨.str ⟨#[c]⟩ tu, ?_⟩, ?_, hne⟩, fun b hb => ?_⟩
    · have e1 : ((i + 1 : Nat) : Int) = (i : Int) + 1 := by omega
      rw [e1]; exact he'
    · obtain ⟨o, q, r⟩ := hit'
      exact ⟨o, (sb.2 it (Ne.symm hne)).trans q, r⟩
    · have hb' : b < s.heap.objs.size := by
        have e' : b = e ∨ b = it := by simpa using hb
        rcases e' with z | z
        · rw [z]; exact hel
        · rw [z]; exact hil
      rw [upd_ne (Nat.ne_of_lt hb')]
      exact (hf b hb).1
  done := by
    intro X hP hw hK hc i pins s σ H E I hf st hg
    subst hP hw hK
    obtain ⟨⟨old, he⟩, hit, hne⟩ := st
    obtain ⟨f0, f1, f2, f3, f4, f5⟩ := hf it (by simp)
    have D : Draws X.prog X.w X.A.in1 it [it] i (fun i v => True) (fun j h => j = i ∧ h.IsStrIter it ty x t i) := by
      have hg' : x.cps[i]? = none := Array.getElem?_eq_none hg
      refine ⟨fun _ _ st => let ⟨_, o, ho, _⟩ := st; ⟨o, ho⟩, fun _ _ _ st hk => let ⟨e, o, ho, r⟩ := st; ⟨e, o, hk it (by simp) o ho, r⟩, fun j s Q E hj st hQ => absurd hj (by rw [st.1]; exact Nat.lt_irrefl _), fun s Q E st hE => ?_⟩
      obtain ⟨_, st⟩ := st
      rcases hty with z | z
      · subst z
        exact wpAny_nextOf_ascii_end (A := X.A.in1) (I.ok.hd hc) st hg' hE
      · subst z
        exact wpAny_nextOf_wide_end (A := X.A.in1) (I.ok.hd hc) st hg' hE
    exact wpAny_pyNext_enum_endD D he ⟨rfl, hit⟩ fun h' eb => ⟨rfl, I.turned (t' := s.toks) (fun b o hb q => eb b o hb q) f0 f1 f3 f4 f5⟩
  self := fun A i s Q E st h => let ⟨⟨_, he⟩, _⟩ := st; wpAny_pyIter_enum he h
def iEnumA (K : PySem.W.Frag) (ta : TA) : TI := fun σ H R => ta σ H fun vs H1 => (∃ a xs, vs = [.ref a] ∧ SqL K H1 a xs ∧ R (Ite K a) H1) ∨ ∃ x, vs = [.str x] ∧ R (Ites x) H1
theorem pi_enumA {X : Cx} {e : Expr} {ta : TA} {p pos tpos : Pos} {elts : List Expr} {kk : Nat} (hg : Gl X "enumerate") (hm : X.mg "enumerate" = none) (ha : PA X [e] ta) (hs : starEach [e] X.env = [(false, eval e X.env)] := by rfl) :
    PI X (.Tuple elts kk tpos) (.Call (.Name "enumerate" p) [e] [] pos) (iEnumA X.K ta) := by
  refine ⟨fun pins s σ H R I h => ?_⟩
  refine PyProof.Rows.Call_ (ld_blt I hg hm (by rfl) (PyProof.Rows.callWith_type1 (thn (ha.run pos pins s σ H _ I h) fun us s1 ⟨vs, H1, I1, r1, q1⟩ => ?_) hs rfl))
  have fp : ∀ b ∈ [s1.heap.objs.size + 1, s1.heap.objs.size], FpOk X pins H1 b := fun b hb => by
    have e' : b = s1.heap.objs.size + 1 ∨ b = s1.heap.objs.size := by simpa using hb
    have hle : s1.heap.objs.size ≤ b := by omega
    exact I1.fpOk hle (I1.hok.fresh hle)
  rcases q1 with ⟨a, xs, ex, hq, q⟩ | ⟨x, ex, q⟩
  · subst ex
    cases r1 with
    | cons r rr =>
      cases rr
      cases r
      obtain ⟨its, rv, p', hz⟩ := I1.list hq
      refine call_enumerate_list p'.isList fun h' he hit hsz hk => wpAny_pyIter_enum he ?_
      have I2 : Inv X pins σ H1 { s1 with heap := h' } := I1.kept (t' := s1.toks) hk
      exact ⟨s1.heap.objs.size + 1, [s1.heap.objs.size + 1, s1.heap.objs.size], _, _, H1, rfl, I2, turn_enum a (s1.heap.objs.size + 1) s1.heap.objs.size, ⟨⟨.none, he⟩, hit, Nat.succ_ne_self _⟩, fp, q⟩
  · subst ex
    cases r1 with
    | cons r rr =>
      cases rr
      obtain ⟨t, rfl⟩ := r
      refine call_enumerate_str fun h' he hit hsz hk => wpAny_pyIter_enum he ?_
      have I2 : Inv X pins σ H1 { s1 with heap := h' } := I1.kept (t' := s1.toks) hk
      have hty : strIterType x = "str_ascii_iterator" ∨ strIterType x = "str_iterator" := by
        unfold strIterType
        split
        · exact .inl rfl
        · exact .inr rfl
      exact ⟨s1.heap.objs.size + 1, [s1.heap.objs.size + 1, s1.heap.objs.size], _, _, H1, rfl, I2, turn_enumS (s1.heap.objs.size + 1) s1.heap.objs.size x t _ hty, ⟨⟨.none, he⟩, hit, Nat.succ_ne_self _⟩, fp, q⟩
theorem fed_enumS {K : PySem.W.Frag} {F : Addr → Prop} {H : Hp} {x : Str} : Fed K F H (Ites x) (enumD (signsOf x)) := fun F' H' k i => by
  have hl : (enumD (signsOf x)).length = x.cps.size := by unfold enumD signsOf; simp
  rw [hl]
  refine ⟨fun h => h, fun h => ⟨h, fun y H'' ⟨T, c, e, hT, e2, hc⟩ => ?_⟩⟩
  subst e e2
  refine ⟨same_new hT, .tup [.int (i : Nat), .str ⟨#[c]⟩], ?_, .tup (.of upd_same) (.cons (.int _) (.cons (.str _) .nil))⟩
  unfold enumD signsOf
  simp [hc]
def kEnumA : List D → (List D → Prop) → Prop := fun ds P => match ds with
  | [.lst l] => P (enumD l)
  | [.arr l] => P (enumD l)
  | [.str x] => P (enumD (signsOf x))
  | _ => False
section
variable {X : Cx} {C : Pr} {e b o i' value : Expr} {g : DA} {f fg : DE} {p pos tpos pos' : Pos} {i : Nat}
theorem ji_enumA (hC : JC X C) {elts : List Expr} {kk : Nat} (hg : Gl X "enumerate") (hm : X.mg "enumerate" = none) (ha : PA X [e] (lA C g)) (hs : starEach [e] X.env = [(false, eval e X.env)] := by rfl) :
    PI X (.Tuple elts kk tpos) (.Call (.Name "enumerate" p) [e] [] pos) (lI C (daMap g kEnumA)) :=
  PI.imp (pi_enumA hg hm ha hs) fun σ H R h => en_args h fun ds vs F1 H1 Pk rl q k => by
    rw [← hC.k]
    unfold kEnumA at q
    split at q
    · cases rl with
      | cons r rr =>
        cases rr
        cases r with
        | lst f s r => exact .inl ⟨_, _, rfl, .of s, k _ _ q (fed_enum (fun F' H' k => .of (k.fz _ _ f s)) r)⟩
    · cases rl with
      | cons r rr =>
        cases rr
        cases r with
        | arr s r => exact .inl ⟨_, _, rfl, s.sq, k _ _ q (fed_enum (fun F' H' k => (keep_arr k s).sq) r)⟩
    · cases rl with
      | cons r rr =>
        cases rr
        cases r
        exact .inr ⟨_, rfl, k _ _ q fed_enumS⟩
    · exact q.elim
/-! ### xs[i] = v, the list a name's -/
def dLPutV (i : Nat) (f g : DE) : DS := dsThen f fun r ρ1 P => (∃ s, ρ1[i]? = some (some s)) ∧ dsThen g (fun r2 ρ2 P => ∃ s l k j, ρ2[i]? = some (some s) ∧ s.mt = some (.lst l) ∧ r2.d = .int k ∧ ixN l.length k = some j ∧ P .nx (ρ2.set i (some (s.put (.lst (l.set j r.d)))))) ρ1 P
theorem js_lput (hC : JC X C) (ho : PE X o (tVar i)) (hi : PE X i' (lE C fg)) (hv : PE X value (lE C f)) (hs : swapsWithSole [.Subscript o i' pos'] value pos.line X.env = pure false := by rfl) (hw : swappedStores [.Subscript o i' pos'] value X.env = pure none := by rfl)
    (h1 : (assignEach [.Subscript o i' pos'] X.env).map (·.2) = [assign (.Subscript o i' pos') X.env] := by rfl)
    (ha : ∀ v, assign (.Subscript o i' pos') X.env v = (do
      let ov ← holding [v] (eval o X.env)
      let iv ← holding [v, ov] (eval i' X.env)
      standAt pos'
      holding [v, ov, iv] (setItem ov iv v)
      release [v, ov, iv] []) := by intro _; rfl) : PS X (.Assign [.Subscript o i' pos'] value pos) (lS C (dLPutV i f fg)) :=
  PS.imp (ps_asg hv (pg_sub ho hi set_list ha) hs hw h1) fun Dn σ H ⟨ρ, F, P, R, hf, k6⟩ => by
    refine sS R hf k6 fun r ρ1 v H1 F1 x1 R1 rs ⟨⟨s0, h0⟩, q⟩ => ?_
    obtain ⟨F2, x2, R2, rv⟩ := RepS.fz R x1 R1 rs
    obtain ⟨w, hw, _⟩ := R2.rp1 h0
    refine ⟨w, hw, ρ1, F2, _, R2, q, fun r2 ρ3 q3 u H3 F3 x3 R3 rs3 => ?_, fun c y ρ' pp cls dd H' F' x' R' xo => k6.ex c y ρ' pp cls dd σ H' F' ((x2.keeps R).trans (x'.keeps R2)) R' (xo.bk fun a z => R.h0 (x2.bk a z))⟩
    obtain ⟨F4, x4, R4, rv4⟩ := RepS.fz R2 x3 R3 rs3
    obtain ⟨s, l, k, j, hs, m, hk, hj, q4⟩ := q3
    obtain ⟨a, e1, nf, t, z⟩ := R4.mt i s _ hs m
    rw [hw] at e1
    cases e1
    rw [hk] at rv4
    cases rv4
    cases t with
    | lst hx rr =>
      rename_i xs
      have rv' := rv.keep (x4.keeps R2)
      have K1 : Keeps C.K F4 H3 F4 (upd H3 a (.lst (xs.set j v))) := keeps_upd nf hx (fun _ e => nomatch e) (fun _ _ e => nomatch e)
      have t' : Top C.K F4 (upd H3 a (.lst (xs.set j v))) a (.lst (l.set j r.d)) := .lst upd_same (RepL.set (rv'.keep K1) j (rr.keep K1))
      have trk : ∀ b, F4 b → ∃ o, (upd H3 a (.lst (xs.set j v))) b = some o := fun b fb => by
        obtain ⟨o, ho⟩ := R4.trk b fb
        exact ⟨o, by rw [upd_ne (show b ≠ a from fun e => nf (e ▸ fb))]; exact ho⟩
      obtain ⟨R5, x5⟩ := R4.upd hs m hw (fun _ q => q) (fun _ q => .inl q) trk upd_kp upd_bk t'
      exact ⟨a, xs, k, j, rfl, rfl, hx, by rw [rr.length]; exact hj, k6.nx _ q4 σ _ F4 (((x2.keeps R).trans (x4.keeps R2)).trans (x5.keeps R4)) R5⟩
end
end Ow

set_option Elab.async false
set_option linter.all false
set_option maxRecDepth 100000
set_option maxHeartbeats 4000000
namespace Ow
open PySem PySem.Spec L2
set_option autoImplicit false
/-! ### small things for printed derivations -/
section
variable {X : Cx} {C : Pr} {x : Str} {pos : Pos}
theorem je_gs {z : Str} (hg : Gl X x) (h : ∃ t, X.mg x = some (.str z t)) (hd : (x == ("__debug__" : Str)) = false := by decide) : PE X (.Name x pos) (lE C (dC (.str z))) := by
  obtain ⟨t, ht⟩ := h
  exact je_c (pe_glob hg ht (show RelV (.str z) (.str z t) from ⟨t, rfl⟩) hd) fun _ _ _ => .str _
theorem je_gi {z : Int} (hg : Gl X x) (h : ∃ t, X.mg x = some (.int z t)) (hd : (x == ("__debug__" : Str)) = false := by decide) : PE X (.Name x pos) (lE C (dC (.int z))) := by
  obtain ⟨t, ht⟩ := h
  exact je_c (pe_glob hg ht (show RelV (.int z) (.int z t) from ⟨t, rfl⟩) hd) fun _ _ _ => .int _
end
/-- a bound of a slice that is an int -/
def dPart (f : DE) : DE := dThen f fun r ρ P => match r.d with
  | .int i => P (.ok (.frz (.int i))) ρ
  | _ => False
theorem gT_ex {h : DGs} (mono : ∀ ds ρ P, h ds ρ P → ∃ ρ', P ρ') : ∀ d ρ P, gT h d ρ P → ∃ ρ', P ρ' := fun d ρ P q => by
  unfold gT at q
  split at q
  · exact mono _ _ _ q
  · exact q.elim
/-- a spec by a function: what a call answers, no borrowed object -/
def fnSp (f : List D → Option O) : DSp := fun cs ds P => cs = [] ∧ ∃ o, f ds = some o ∧ P o []
end Ow

set_option Elab.async false
set_option linter.all false
set_option maxRecDepth 100000
set_option maxHeartbeats 4000000
/-! Hw1: what the top leaves, seen in one pass over the module's names; the facts of the walk from it. -/
namespace Hw
open PySem PySem.Spec L2
abbrev Gt : Type := Addr → Option Obj
/-! ### the whole heap as a written part -/
def whole (h : Heap) : PySem.W.Frag := (List.range h.objs.size).filterMap fun a => (h.get? a).map fun o => (a, o)
theorem lookup_fm {g : Addr → Option Obj} {a : Addr} : ∀ l : List Addr, (l.filterMap fun a => (g a).map fun o => (a, o)).lookup a = if a ∈ l then g a else none
  | [] => rfl
  | b :: l => by
    cases hb : g b with
    | none =>
      rw [List.filterMap_cons, hb]
      show (l.filterMap _).lookup a = _
      rw [lookup_fm l]
      by_cases e : a = b
      · subst e
        rw [if_pos (List.mem_cons_self), hb]
        split <;> rfl
      · have q : (a ∈ b :: l) = (a ∈ l) := by simp [e]
        simp only [q]
    | some o =>
      rw [List.filterMap_cons, hb]
      show ((b, o) :: l.filterMap _).lookup a = _
      rw [List.lookup_cons]
      by_cases e : a = b
      · subst e
        rw [if_pos List.mem_cons_self, hb]
        simp
      · have q : (a == b) = false := by simpa using e
        rw [q]
        show (l.filterMap _).lookup a = _
        rw [lookup_fm l]
        have q2 : (a ∈ b :: l) = (a ∈ l) := by simp [e]
        simp only [q2]
theorem whole_at (h : Heap) (a : Addr) : (whole h).lookup a = h.get? a := by
  unfold whole
  rw [lookup_fm]
  split
  · rfl
  · rename_i n
    cases e : h.get? a with
    | none => rfl
    | some o => exact absurd (List.mem_range.mpr (Heap.lt_size e)) n
theorem whole_in (h : Heap) : (whole h).In h := fun a o e => by rw [← whole_at]; exact e
/-! ### what is seen -/
def keyOf (e : DictEntry) : Option Str := match e.key with
  | .str x _ => some x
  | _ => none
def entG (g : Gt) (N : Addr) : Option (List DictEntry) := match g N with
  | some ⟨_, _, .dict es _, _⟩ => some es.toList
  | _ => none
def codeNm (g : Gt) (v : Value) : Option Str := match v with
  | .ref c => (match g c with
    | some ⟨_, _, .fields vs, _⟩ => (match vs.toList with
      | _ :: .str n _ :: _ => some n
      | _ => none)
    | _ => none)
  | _ => none
abbrev FnS : Type := Str × Str × Arguments × FuncBody × Scope × Addr × List (Str × Addr) × Value × Addr × Option Str
def fnS (g : Gt) (fd : FuncData) : FnS := (fd.name, fd.qualname, fd.params, fd.body, fd.scope, fd.globals, fd.closure, fd.defaults, fd.builtins, codeNm g fd.code)
def nsFind (es : List DictEntry) (n : Str) : Option Value := (es.find? (·.key.isStr n)).map (·.val)
/-- the class at b by its name, if the module holds it so -/
def clsNm (g : Gt) (gs : List DictEntry) (b : Addr) : Option Str := match g b with
  | some ⟨_, _, .cls cd, _⟩ => (match nsFind gs cd.name with
    | some (.ref c) => (match Nat.beq b c with
      | true => some cd.name
      | false => none)
    | _ => none)
  | _ => none
/-- a class behind the first: its own name, or the built-in -/
def mroS (g : Gt) (gs : List DictEntry) (v : Value) : Option Str × Value := match v with
  | .ref b => (match clsNm g gs b with
    | some n => (some n, .none)
    | none => (none, .none))
  | v => (none, v)
def isTy : Value → Bool
  | .type "type" => true
  | _ => false
/-- the names that the walk looks up in an error's class -/
def badNames : List Str := ["__setattr__", "__getattribute__", "__getattr__", "at", "__class__"]
def lacks (es : List DictEntry) (n : Str) : Bool := es.all fun e => match keyOf e with
  | some k => !(k == n)
  | none => false
inductive Seen where
  | fn (f : FnS)
  | cls (nm : Str) (own ty hd nodel : Bool) (mro : List (Option Str × Value)) (mk : Option (Option Value)) (ok : Option (Bool × Option (Option FnS)))
  | str (z : Str)
  | int (i : Int)
  | other
def lookFn (g : Gt) (v : Value) : Option FnS := match v with
  | .ref a => (match g a with
    | some ⟨.type "function", _, .func fd, _⟩ => some (fnS g fd)
    | _ => none)
  | _ => none
def look (g : Gt) (gs : List DictEntry) (v : Value) : Seen := match v with
  | .ref a => (match g a with
    | some ⟨_, _, .func fd, _⟩ => .fn (fnS g fd)
    | some ⟨oc, _, .cls cd, sl⟩ => .cls cd.name (match cd.mro with
        | .ref b :: _ => Nat.beq a b
        | _ => false) (isTy oc) cd.hasDict (!cd.hasDel) (cd.mro.tail.map (mroS g gs)) (if sl.size = 6 then some (sl.toList.getD 4 none) else none)
        ((entG g cd.ns).map fun es => (badNames.all (lacks es), (nsFind es "__init__").map (lookFn g)))
    | _ => .other)
  | .str z _ => .str z
  | .int i _ => .int i
  | _ => .other
abbrev Al : Type := Option (List (Option Str)) × Option (List Seen)
/-- the module's names; what stands behind all but the first k -/
def obsG (k : Nat) (g : Gt) : Al := ((entG g mainGlobals).map fun es => es.map keyOf, (entG g mainGlobals).map fun es => (es.drop k).map fun e => look g es e.val)
def hook (k : Nat) (v : Al) : PySem.W.Hook where
  α := Al
  obs := fun s => obsG k s.heap.get?
  val := fun _ => v
  says := fun _ h => ∃ h0 : Heap, (∀ a o, h0.get? a = some o → h.get? a = some o) ∧ obsG k h0.get? = v
  of := fun _ s e => ⟨s.heap, fun _ _ z => z, e⟩
  keeps := fun _ _ _ ⟨h0, k1, e⟩ k2 => ⟨h0, fun a o z => k2 a o (k1 a o z), e⟩
theorem obs_eq {k : Nat} {v : Al} (s : PySem.W.SharedT) : obsG k (HandSHeadRun.getT s) = (hook k v).obs s.abs := by
  have e : HandSHeadRun.getT s = s.abs.heap.get? := funext (HandSHeadRun.getT_eq s)
  rw [e] <;> rfl
/-- two looks at one run -/
theorem run_two {r : PySem.W.OpenRow} {q : Program} {k : Nat} {v : Al} {M : Nat} {loose : List PySem.Str} {w : World}
    (h1 : HandSHeadRun.RunEq r q PySem.W.Hook.none (fun _ => ()) M loose w)
    (h2 : ∀ os : OsState, (HandSHeadRun.endF (HandSHeadRun.stepQ (HandSHeadRun.denQ HandSHeadRun.tabQ) r.prog w) M r.prog w os).map (fun s => obsG k (HandSHeadRun.getT s)) = some v) :
    HandSHeadRun.RunEq r q (hook k v) (fun s => obsG k (HandSHeadRun.getT s)) M loose w := fun os => by
  have e1 := h1 os
  have e2 := h2 os
  cases e : HandSHeadRun.endF (HandSHeadRun.stepQ (HandSHeadRun.denQ HandSHeadRun.tabQ) r.prog w) M r.prog w os with
  | none =>
    rw [e] at e2
    cases e2
  | some s =>
    rw [e] at e1 e2
    have a1 := Option.some.inj e1
    have a2 := Option.some.inj e2
    show some _ = some _
    have b1 := (Prod.mk.inj a1).1
    have b2 := (Prod.mk.inj (Prod.mk.inj a1).2).1
    exact congrArg some (Prod.ext b1 (Prod.ext b2 a2))
end Hw

set_option Elab.async false
set_option linter.all false
set_option maxRecDepth 100000
set_option maxHeartbeats 4000000
/-! Hw2: the walk's facts out of what is seen -/
namespace Hw
open PySem PySem.Spec L2
/-! ### dicts with text keys -/
theorem find_key {x : Str} : ∀ {es : List DictEntry} {ns : List Str} {i : Nat}, es.map keyOf = ns.map some → ns.Nodup → ns[i]? = some x → ∃ e, es[i]? = some e ∧ es.find? (·.key.isStr x) = some e
  | [], [], i, _, _, h => by simp at h
  | e :: es, n :: ns, i, hm, nd, h => by
    rw [List.map_cons, List.map_cons] at hm
    injection hm with h1 h2
    have hk : ∃ t, e.key = .str n t := by
      unfold keyOf at h1
      split at h1
      · rename_i z t q
        cases h1
        exact ⟨t, q⟩
      · cases h1
    obtain ⟨t, hk⟩ := hk
    rw [List.nodup_cons] at nd
    cases i with
    | zero =>
      simp at h
      subst h
      exact ⟨e, rfl, by rw [List.find?_cons_of_pos]; rw [hk]; show (n == n) = true; simp⟩
    | succ i =>
      have h' : ns[i]? = some x := by simpa using h
      obtain ⟨e', a, b⟩ := find_key h2 nd.2 h'
      refine ⟨e', by simpa using a, ?_⟩
      rw [List.find?_cons_of_neg]
      · exact b
      · rw [hk]
        show ¬ (n == x) = true
        intro z
        have z : n = x := by simpa using z
        subst z
        exact nd.1 (List.mem_of_getElem? h')
theorem find_out {x : Str} : ∀ {es : List DictEntry} {ns : List Str}, es.map keyOf = ns.map some → x ∉ ns → es.find? (·.key.isStr x) = none ∧ es.any (·.refKey) = false
  | [], _, _, _ => ⟨rfl, rfl⟩
  | e :: es, [], hm, _ => by cases hm
  | e :: es, n :: ns, hm, hx => by
    rw [List.map_cons, List.map_cons] at hm
    injection hm with h1 h2
    have hk : ∃ t, e.key = .str n t := by
      unfold keyOf at h1
      split at h1
      · rename_i z t q
        cases h1
        exact ⟨t, q⟩
      · cases h1
    obtain ⟨t, hk⟩ := hk
    obtain ⟨a, b⟩ := find_out h2 (fun z => hx (List.mem_cons_of_mem _ z))
    refine ⟨?_, ?_⟩
    · rw [List.find?_cons_of_neg]
      · exact a
      · rw [hk]
        show ¬ (n == x) = true
        intro z
        have z : n = x := by simpa using z
        exact hx (by rw [z]; exact List.mem_cons_self)
    · rw [List.any_cons, b]
      unfold DictEntry.refKey
      rw [hk]
      rfl
theorem lacks_out {x : Str} : ∀ {es : List DictEntry}, lacks es x = true → es.find? (·.key.isStr x) = none ∧ es.any (·.refKey) = false
  | [], _ => ⟨rfl, rfl⟩
  | e :: es, h => by
    unfold lacks at h
    rw [List.all_cons, Bool.and_eq_true] at h
    obtain ⟨h1, h2⟩ := h
    obtain ⟨a, b⟩ := lacks_out (es := es) h2
    cases q : keyOf e with
    | none => rw [q] at h1; cases h1
    | some n =>
      rw [q] at h1
      have hk : ∃ t, e.key = .str n t := by
        unfold keyOf at q
        split at q
        · rename_i z t q'
          cases q
          exact ⟨t, q'⟩
        · cases q
      obtain ⟨t, hk⟩ := hk
      refine ⟨?_, ?_⟩
      · rw [List.find?_cons_of_neg]
        · exact a
        · rw [hk]
          show ¬ (n == x) = true
          intro z
          have h1' : (!(n == x)) = true := h1
          rw [z] at h1'
          cases h1'
      · rw [List.any_cons, b]
        unfold DictEntry.refKey
        rw [hk]
        rfl
theorem nsIn_ent {K : PySem.W.Frag} {g : Gt} (hg : ∀ a, K.lookup a = g a) {N : Addr} {es : List DictEntry} (h : entG g N = some es) {x : Str} :
    PySem.W.nsIn K N x = match es.find? (·.key.isStr x) with
      | some e => some (some e.val)
      | none => if es.any (·.refKey) then none else some none := by
  unfold entG at h
  unfold PySem.W.nsIn
  rw [hg]
  split at h
  · rename_i oc od es0 n sl q
    cases h
    rw [q]
    rfl
  · cases h
/-! ### the says -/
structure Sy (k : Nat) (ns : List Str) (ss : List Seen) (K : PySem.W.Frag) (es : List DictEntry) : Prop where
  e : entG (fun a => K.lookup a) mainGlobals = some es
  m : es.map keyOf = ns.map some
  s : (es.drop k).map (fun e => look (fun a => K.lookup a) es e.val) = ss
  nd : ns.Nodup
theorem sy_of {k : Nat} {ns : List Str} {ss : List Seen} {w : World} {h : Heap} (y : (hook k (some (ns.map some), some ss)).says w h) (nd : ns.Nodup) : ∃ K es, K.In h ∧ Sy k ns ss K es := by
  obtain ⟨h0, k1, e⟩ := y
  have hg : h0.get? = fun a => (whole h0).lookup a := funext fun a => (whole_at h0 a).symm
  rw [hg] at e
  unfold obsG at e
  obtain ⟨e1, e2⟩ := Prod.mk.inj e
  cases q : entG (fun a => (whole h0).lookup a) mainGlobals with
  | none => rw [q] at e1; cases e1
  | some es =>
    rw [q] at e1 e2
    exact ⟨whole h0, es, fun a o z => k1 a o (whole_in h0 a o z), q, Option.some.inj e1, Option.some.inj e2, nd⟩
section
variable {k : Nat} {ns : List Str} {ss : List Seen} {K : PySem.W.Frag} {es : List DictEntry} {h : Heap} {mg : Str → Option Value}
theorem Sy.val (y : Sy k ns ss K es) {i : Nat} {x : Str} {s : Seen} (hn : ns[k + i]? = some x) (hs : ss[i]? = some s) : ∃ v, PySem.W.nsIn K mainGlobals x = some (some v) ∧ look (fun a => K.lookup a) es v = s := by
  obtain ⟨e, he, hf⟩ := find_key y.m y.nd hn
  refine ⟨e.val, ?_, ?_⟩
  · rw [nsIn_ent (g := fun a => K.lookup a) (fun _ => rfl) y.e, hf]
  · rw [← y.s, List.getElem?_map, List.getElem?_drop, he] at hs
    exact Option.some.inj hs
theorem Sy.free (y : Sy k ns ss K es) (X : K.In h) (G : h.Ns mainGlobals mg) {x : Str} (hx : x ∉ ns) : mg x = none := by
  obtain ⟨a, b⟩ := find_out y.m hx
  refine PySem.W.mg_none_of X G ?_
  rw [nsIn_ent (g := fun a => K.lookup a) (fun _ => rfl) y.e, a]
  show (if es.any (·.refKey) = true then none else some none) = _
  rw [b, if_neg (by simp)]
theorem Sy.str (y : Sy k ns ss K es) (X : K.In h) (G : h.Ns mainGlobals mg) (i : Nat) {x z : Str} (hn : ns[k + i]? = some x) (hs : ss[i]? = some (.str z)) : ∃ t, mg x = some (.str z t) := by
  obtain ⟨v, h1, h2⟩ := y.val hn hs
  have h3 := PySem.W.mg_of X G h1
  unfold look at h2
  split at h2
  · split at h2 <;> cases h2
  · cases h2
    exact ⟨_, h3⟩
  · cases h2
  · cases h2
theorem codeNm_in {v : Value} {q : Str} (h : codeNm (fun a => K.lookup a) v = some q) : PySem.W.codeIn K v q = true := by
  unfold codeNm at h
  split at h
  · rename_i c
    split at h
    · rename_i q1
      split at h
      · rename_i q2
        cases h
        unfold PySem.W.codeIn
        simp only [q1, q2]
        exact beq_self_eq_true _
      · cases h
    · cases h
  · cases h
theorem ga_of {x : Str} {a : Addr} (h : PySem.W.nsIn K mainGlobals x = some (some (.ref a))) : He.ga K x = a := by
  unfold He.ga
  rw [h]
/-- a def of the module -/
theorem Sy.fn (y : Sy k ns ss K es) (X : K.In h) (G : h.Ns mainGlobals mg) (i : Nat) {x nm q : Str} {ps : Arguments} {body : List Stmt} {sc : Scope} (hn : ns[k + i]? = some x) (hs : ss[i]? = some (.fn (nm, q, ps, .stmts body, sc, mainGlobals, [], .none, builtinsNs, some q))) :
    ∃ fd, mg x = some (.ref (He.ga K x)) ∧ FunD K nm q ps body sc [] [] (He.ga K x) fd := by
  obtain ⟨v, h1, h2⟩ := y.val hn hs
  have h3 := PySem.W.mg_of X G h1
  unfold look at h2
  split at h2
  · rename_i a
    split at h2
    · rename_i oc od fd sl hl
      obtain ⟨n1, n2, n3, n4, n5, n6, n7, n8, n9, n10, n11, n12, n13, n14, n15⟩ := fd
      simp only [fnS, Seen.fn.injEq, Prod.mk.injEq] at h2
      obtain ⟨e1, e2, e3, e4, e5, e6, e7, e8, e9, e10⟩ := h2
      subst e1 e2 e3 e4 e5 e6 e7 e8 e9
      have hc := codeNm_in e10
      rw [ga_of h1]
      refine ⟨_, h3, ⟨⟨oc, od, .none, n9, n10, n11, n12, n13, n14, sl, rfl, hl, hc, .inl ⟨rfl, rfl⟩, .inl rfl⟩, ?_⟩⟩
      have hl' : List.lookup a K = _ := hl
      unfold PySem.W.keepIn
      simp only [hl']
    · cases h2
    · cases h2
  · cases h2
  · cases h2
  · cases h2

/-! ### error classes -/
def veList : List Value := [.type "ValueError", .type "Exception", .type "BaseException", .type "object"]
theorem ve_sa : PySem.W.alongIn K "__setattr__" veList = some (some (.builtin "object.__setattr__")) := by kernel_rfl
theorem ve_ga : PySem.W.alongIn K "__getattribute__" veList = some (some (.builtin "BaseException.__getattribute__")) := by kernel_rfl
theorem ve_gg : PySem.W.alongIn K "__getattr__" veList = some none := by kernel_rfl
theorem ve_at : PySem.W.alongIn K "at" veList = some none := by kernel_rfl
theorem ve_cl : PySem.W.alongIn K "__class__" veList = some (some (.builtin "object.__class__")) := by kernel_rfl
theorem ty_call : PySem.W.findIn K (.type "type") "__call__" = some (some (.builtin "type.__call__")) := by kernel_rfl
theorem oc_get : PySem.W.specialIn K (.builtin "object.__class__") "__get__" = some (some (.builtin "getset_descriptor.__get__")) := by kernel_rfl
theorem oc_set : PySem.W.takesIn K (.builtin "object.__class__") = some true := by kernel_rfl
theorem ve_meta : PySem.W.kitMeta "ValueError" = true := by kernel_rfl
/-- what is seen of a class that is an error's -/
structure ClsS (K : PySem.W.Frag) (C : Addr) (c : Str) (bm : List Value) : Prop where
  lk : ∃ q N bs sn sub ab col dd k0 k1 k2 k3 k5, K.lookup C = some (excClassObj c q C N bs bm true sn sub ab col dd k0 k1 k2 k3 k5 "ValueError.__new__") ∧ ∀ n ∈ badNames, PySem.W.nsIn K N n = some none
def clsLit (nm : Str) (bs : List (Option Str × Value)) (ini : Option (Option FnS)) : Seen := .cls nm true true true true bs (some (some (.builtin "ValueError.__new__"))) (some (true, ini))
theorem six {α : Type} {sl : Array α} (h : sl.size = 6) : ∃ a b c d e f, sl = #[a, b, c, d, e, f] := by
  obtain ⟨l⟩ := sl
  match l, h with
  | [a, b, c, d, e, f], _ => exact ⟨a, b, c, d, e, f, rfl⟩
theorem Sy.cls (y : Sy k ns ss K es) (i : Nat) {x nm : Str} {bs : List (Option Str × Value)} {ini : Option (Option FnS)} (hn : ns[k + i]? = some x) (hs : ss[i]? = some (clsLit nm bs ini)) :
    ∃ (bm : List Value) (N : Addr) (es' : List DictEntry), PySem.W.nsIn K mainGlobals x = some (some (.ref (He.ga K x))) ∧ bm.map (mroS (fun a => K.lookup a) es) = bs ∧ entG (fun a => K.lookup a) N = some es' ∧ (∀ n ∈ badNames, lacks es' n = true) ∧ (nsFind es' "__init__").map (lookFn fun a => K.lookup a) = ini ∧
      ∃ q bs sn sub ab col dd k0 k1 k2 k3 k5, K.lookup (He.ga K x) = some (excClassObj nm q (He.ga K x) N bs bm true sn sub ab col dd k0 k1 k2 k3 k5 "ValueError.__new__") := by
  obtain ⟨v, h1, h2⟩ := y.val hn hs
  unfold look clsLit at h2
  split at h2
  · rename_i a
    rw [ga_of h1]
    split at h2
    · cases h2
    · rename_i oc od cd sl hl
      have hl' : K.lookup a = some ⟨oc, od, .cls cd, sl⟩ := hl
      obtain ⟨c1, c2, c3, c4, c5, c6, c7, c8, c9, c10, c11⟩ := cd
      simp only [Seen.cls.injEq] at h2
      obtain ⟨e1, e2, e3, e4, e5, e6, e7, e8⟩ := h2
      have t3 : oc = .type "type" := by
        unfold isTy at e3
        split at e3
        · rfl
        · cases e3
      have t5 : c11 = false := by
        cases c11 with
        | false => rfl
        | true => cases e5
      have t2 : ∃ r, c3 = .ref a :: r := by
        cases c3 with
        | nil => cases e2
        | cons u r =>
          cases u with
          | ref b =>
            have e2' : Nat.beq a b = true := e2
            have z : a = b := Nat.eq_of_beq_eq_true e2'
            exact ⟨r, by rw [z]⟩
          | _ => cases e2
      obtain ⟨r, hr⟩ := t2
      subst hr t3 t5 e1 e4
      have h6 : sl.size = 6 := by
        by_cases z : sl.size = 6
        · exact z
        · rw [if_neg z] at e7; cases e7
      obtain ⟨k0, k1, k2, k3, k4, k5, hsl⟩ := six h6
      subst hsl
      have e7' : k4 = some (.builtin "ValueError.__new__") := by
        have z := e7
        rw [if_pos h6] at z
        exact Option.some.inj z
      subst e7'
      cases q : entG (fun a => K.lookup a) c4 with
      | none => rw [q] at e8; cases e8
      | some es' =>
        rw [q] at e8
        obtain ⟨f1, f2⟩ := Prod.mk.inj (Option.some.inj e8)
        exact ⟨r, c4, es', h1, e6, q, fun n hn => List.all_eq_true.mp f1 n hn, f2, _, _, _, _, _, _, _, _, _, _, _, _, hl'⟩
    · cases h2
  · cases h2
  · cases h2
  · cases h2
end
end Hw

set_option Elab.async false
set_option linter.all false
set_option maxRecDepth 100000
set_option maxHeartbeats 4000000
namespace Ow
open PySem PySem.Spec L2
/-- the error classes: each under the first -/
def errSub (a b : Str) : Bool := decide (a = b) || decide (b = "OutweighedError")
end Ow
/-! Hw3: the error classes -/
namespace Hw
open PySem PySem.Spec L2 Ow
section
variable {k : Nat} {ns : List Str} {ss : List Seen} {K : PySem.W.Frag} {es : List DictEntry} {h : Heap} {mg : Str → Option Value}
def veS : List (Option Str × Value) := [(none, .type "ValueError"), (none, .type "Exception"), (none, .type "BaseException"), (none, .type "object")]
theorem mro_ty {v : Value} {T : String} (h : mroS (fun a => K.lookup a) es v = (none, .type T)) : v = .type T := by
  cases v with
  | ref b =>
    have h' : (match clsNm (fun a => K.lookup a) es b with
      | some n => ((some n, .none) : Option Str × Value)
      | none => (none, .none)) = (none, .type T) := h
    cases q : clsNm (fun a => K.lookup a) es b with
    | none => rw [q] at h'; cases h'
    | some n => rw [q] at h'; cases h'
  | _ => exact (Prod.mk.inj h).2
theorem mro_ve : ∀ {bm : List Value} {Ts : List String}, bm.map (mroS (fun a => K.lookup a) es) = Ts.map (fun T => ((none, .type T) : Option Str × Value)) → bm = Ts.map .type
  | [], [], _ => rfl
  | v :: bm, T :: Ts, e => by
    rw [List.map_cons, List.map_cons] at e
    injection e with e1 e2
    rw [mro_ty e1, mro_ve e2]
    rfl
  | [], _ :: _, e => by cases e
  | _ :: _, [], e => by cases e
theorem mro_own {v : Value} {n : Str} (h : mroS (fun a => K.lookup a) es v = (some n, .none)) : ∃ b, v = .ref b ∧ nsFind es n = some (.ref b) := by
  cases v with
  | ref b =>
    have h' : (match clsNm (fun a => K.lookup a) es b with
      | some n => ((some n, .none) : Option Str × Value)
      | none => (none, .none)) = (some n, .none) := h
    cases q : clsNm (fun a => K.lookup a) es b with
    | none => rw [q] at h'; cases h'
    | some n' =>
      rw [q] at h'
      have en : n' = n := Option.some.inj (Prod.mk.inj h').1
      subst en
      refine ⟨b, rfl, ?_⟩
      unfold clsNm at q
      split at q
      · rename_i oc od cd sl ql
        split at q
        · rename_i c qc
          split at q
          · rename_i z
            have eb : b = c := Nat.eq_of_beq_eq_true z
            subst eb
            cases q
            exact qc
          · cases q
        · cases q
      · cases q
  | _ => cases (Prod.mk.inj h).1
theorem nsFind_in (y : Sy k ns ss K es) {n : Str} {v : Value} (h : nsFind es n = some v) : PySem.W.nsIn K mainGlobals n = some (some v) := by
  rw [nsIn_ent (g := fun a => K.lookup a) (fun _ => rfl) y.e]
  unfold nsFind at h
  cases q : es.find? (·.key.isStr n) with
  | none => rw [q] at h; cases h
  | some e => rw [q] at h; cases h; rfl
theorem lacks_ns {N : Addr} {es' : List DictEntry} {n : Str} (q : entG (fun a => K.lookup a) N = some es') (h : lacks es' n = true) : PySem.W.nsIn K N n = some none := by
  obtain ⟨a, b⟩ := lacks_out h
  rw [nsIn_ent (g := fun a => K.lookup a) (fun _ => rfl) q, a]
  show (if es'.any (·.refKey) = true then none else some none) = _
  rw [b, if_neg (by simp)]
/-- what one class of errors says: bm behind itself, its own names -/
structure One (K : PySem.W.Frag) (c : Str) (bm : List Value) (N : Addr) : Prop where
  ns : PySem.W.nsIn K mainGlobals c = some (some (.ref (He.ga K c)))
  lk : ∃ q bs sn sub ab col dd k0 k1 k2 k3 k5, K.lookup (He.ga K c) = some (excClassObj c q (He.ga K c) N bs bm true sn sub ab col dd k0 k1 k2 k3 k5 "ValueError.__new__")
  no : ∀ n ∈ badNames, PySem.W.nsIn K N n = some none
theorem alongIn_none {n : Str} {v : Value} {r : List Value} (h : PySem.W.ownIn K n v = some none) : PySem.W.alongIn K n (v :: r) = PySem.W.alongIn K n r := by
  show (match PySem.W.ownIn K n v with
    | some (some v) => some (some v)
    | some none => PySem.W.alongIn K n r
    | none => none) = _
  rw [h]
theorem One.own {c : Str} {bm : List Value} {N : Addr} (o : One K c bm N) (n : Str) : PySem.W.ownIn K n (.ref (He.ga K c)) = PySem.W.nsIn K N n := by
  obtain ⟨q, bs, sn, sub, ab, col, dd, k0, k1, k2, k3, k5, hl⟩ := o.lk
  unfold PySem.W.ownIn
  simp only [hl]
theorem One.find {c : Str} {bm : List Value} {N : Addr} (o : One K c bm N) (n : Str) : PySem.W.findIn K (.ref (He.ga K c)) n = PySem.W.alongIn K n (.ref (He.ga K c) :: bm) := by
  obtain ⟨q, bs, sn, sub, ab, col, dd, k0, k1, k2, k3, k5, hl⟩ := o.lk
  unfold PySem.W.findIn
  simp only [hl]
theorem One.cls {c : Str} {bm : List Value} {N : Addr} (o : One K c bm N) : ∃ cd, PySem.W.clsIn K (He.ga K c) = some cd ∧ cd.mro = .ref (He.ga K c) :: bm ∧ cd.hasDict = true := by
  obtain ⟨q, bs, sn, sub, ab, col, dd, k0, k1, k2, k3, k5, hl⟩ := o.lk
  refine ⟨_, by unfold PySem.W.clsIn; rw [hl], rfl, rfl⟩
theorem One.sub {c : Str} {bm : List Value} {N : Addr} (o : One K c bm N) (v : Value) : PySem.W.subIn K (.ref (He.ga K c)) v = some ((.ref (He.ga K c) :: bm).contains v) := by
  obtain ⟨cd, h1, h2, _⟩ := o.cls
  show PySem.W.mroIn K (He.ga K c) v = _
  unfold PySem.W.mroIn
  rw [h1, Option.bind_some, h2]
  rfl
theorem One.ty {c : Str} {bm : List Value} {N : Addr} (o : One K c bm N) : PySem.W.typeIn K (.ref (He.ga K c)) = some (.type "type") := by
  obtain ⟨q, bs, sn, sub, ab, col, dd, k0, k1, k2, k3, k5, hl⟩ := o.lk
  show (K.lookup (He.ga K c)).map (·.cls) = _
  rw [hl]
  rfl
theorem One.keep {c : Str} {bm : List Value} {N : Addr} (o : One K c bm N) : PySem.W.keepIn K (.ref (He.ga K c)) = true := by
  have t := o.ty
  obtain ⟨q, bs, sn, sub, ab, col, dd, k0, k1, k2, k3, k5, hl⟩ := o.lk
  unfold PySem.W.keepIn
  simp only [hl]
  unfold PySem.W.specialIn
  rw [t, Option.bind_some, ty_call]
  exact beq_self_eq_true _
theorem One.dict {c : Str} {bm : List Value} {N : Addr} (o : One K c bm N) : PySem.W.hasDictIn K (He.ga K c) = true := by
  obtain ⟨cd, h1, _, h3⟩ := o.cls
  unfold PySem.W.hasDictIn
  rw [h1]
  exact h3
/-- the written errors -/
structure Errs (K : PySem.W.Frag) (subs : List Str) (fI N0 : Addr) : Prop where
  base : One K "OutweighedError" veList N0
  ini : PySem.W.nsIn K N0 "__init__" = some (some (.ref fI))
  tI : PySem.W.typeIn K (.ref fI) = some (.type "function")
  fn : ∃ (oc : Value) (od : Option Addr) (doc pm : Value) (an : Option Addr) (cdv ct kV : Value) (osl : Array (Option Value)) (p1 p2 q1 q2 q3 q4 : Pos),
    K.lookup fI = some ⟨oc, od, .func (PySem.W.fnOf "__init__" "OutweighedError.__init__" (PySem.OwX.iA p1 p2) (PySem.OwX.iB q1 q2 q3 q4) PySem.OwX.iS .none kV doc pm an cdv ct), osl⟩ ∧ PySem.W.codeIn K cdv "OutweighedError.__init__" = true
  sub : ∀ c ∈ subs, ∃ N, One K c (.ref (He.ga K "OutweighedError") :: veList) N ∧ PySem.W.nsIn K N "__init__" = some none
  ne : ("OutweighedError" : Str) ∉ subs
def eNames (subs : List Str) : List Str := "OutweighedError" :: subs
/-- one of them -/
theorem Errs.one {subs : List Str} {fI N0 : Addr} (E : Errs K subs fI N0) {c : Str} (hc : c ∈ eNames subs) :
    ∃ bm N, One K c bm N ∧ (∀ n ∈ badNames, PySem.W.findIn K (.ref (He.ga K c)) n = PySem.W.alongIn K n veList) ∧ PySem.W.findIn K (.ref (He.ga K c)) "__init__" = some (some (.ref fI)) ∧ HandSPX.refsVE bm = true ∧
      (∀ v : Value, (.ref (He.ga K c) :: bm).contains v = (.ref (He.ga K c) == v || (.ref (He.ga K "OutweighedError") == v || veList.contains v))) := by
  rcases List.mem_cons.mp hc with e | hc
  · subst e
    refine ⟨veList, N0, E.base, fun n hn => ?_, ?_, by decide +kernel, fun v => ?_⟩
    · rw [E.base.find, alongIn_none (by rw [E.base.own]; exact E.base.no n hn)]
    · rw [E.base.find]
      show (match PySem.W.ownIn K "__init__" (.ref (He.ga K "OutweighedError")) with
        | some (some v) => some (some v)
        | some none => PySem.W.alongIn K "__init__" veList
        | none => none) = _
      rw [E.base.own, E.ini]
    · rw [List.contains_cons]
      cases q : ((.ref (He.ga K "OutweighedError") : Value) == v) with
      | true => rw [Bool.beq_comm] at q; simp [q]
      | false => rw [Bool.beq_comm] at q; simp [q]
  · obtain ⟨N, o, hi⟩ := E.sub c hc
    refine ⟨_, N, o, fun n hn => ?_, ?_, (show HandSPX.refsVE veList = true by decide +kernel), fun v => ?_⟩
    · rw [o.find, alongIn_none (by rw [o.own]; exact o.no n hn), alongIn_none (by rw [E.base.own]; exact E.base.no n hn)]
    · rw [o.find, alongIn_none (by rw [o.own]; exact hi)]
      show (match PySem.W.ownIn K "__init__" (.ref (He.ga K "OutweighedError")) with
        | some (some v) => some (some v)
        | some none => PySem.W.alongIn K "__init__" veList
        | none => none) = _
      rw [E.base.own, E.ini]
    · rw [List.contains_cons, List.contains_cons]
      simp only [Bool.beq_comm]
theorem kitCls_ref {t : Value} {C : Addr} (h : ((PySem.W.clsIn K C).isSome && PySem.W.typeIn K (.ref C) == some (.type "type")) = true) : PySem.W.kitCls K t (.ref C) = PySem.W.subIn K t (.ref C) := by
  show (if ((PySem.W.clsIn K C).isSome && PySem.W.typeIn K (.ref C) == some (.type "type")) = true then PySem.W.subIn K t (.ref C) else none) = _
  rw [if_pos h]
theorem kitCls_ve {t : Value} : PySem.W.kitCls K t (.type "ValueError") = PySem.W.subIn K t (.type "ValueError") := by
  show (if PySem.W.kitMeta "ValueError" = true then PySem.W.subIn K t (.type "ValueError") else none) = _
  rw [if_pos ve_meta]
theorem ga_inj {a b : Str} {x y : List Value} {N M : Addr} (p : One K a x N) (q : One K b y M) (h : He.ga K a = He.ga K b) : a = b := by
  obtain ⟨_, _, _, _, _, _, _, _, _, _, _, _, l1⟩ := p.lk
  obtain ⟨_, _, _, _, _, _, _, _, _, _, _, _, l2⟩ := q.lk
  rw [h, l2] at l1
  injection l1 with l1
  injection l1 with _ _ l1 _
  injection l1 with l1
  injection l1 with l1 _
  exact l1.symm
theorem ref_beq {a b : Addr} : ((Value.ref a) == Value.ref b) = decide (a = b) := by
  by_cases e : a = b
  · subst e; simp
  · rw [decide_eq_false e]
    refine beq_eq_false_iff_ne.mpr fun z => e ?_
    injection z
theorem Errs.ok {subs : List Str} {fI N0 : Addr} (E : Errs K subs fI N0) (X : K.In h) (G : h.Ns mainGlobals mg) : ErrsOk K mg (eNames subs) errSub fI := by
  have hs : ∀ n, n ∈ badNames → True := fun _ _ => True.intro
  have con : ∀ c ∈ eNames subs, ∀ c2 ∈ eNames subs, PySem.W.subIn K (.ref (He.ga K c)) (.ref (He.ga K c2)) = some (errSub c c2) := fun c hc c2 hc2 => by
    obtain ⟨bm, N, o, _, _, _, hct⟩ := E.one hc
    obtain ⟨bm2, N2, o2, _⟩ := E.one hc2
    rw [o.sub, hct, ref_beq, ref_beq]
    have v0 : veList.contains (.ref (He.ga K c2)) = false := by rfl
    have d1 : decide (He.ga K c = He.ga K c2) = decide (c = c2) := by
      by_cases e : c = c2
      · subst e; simp
      · rw [decide_eq_false e, decide_eq_false fun z => e (ga_inj o o2 z)]
    have d2 : decide (He.ga K "OutweighedError" = He.ga K c2) = decide (c2 = ("OutweighedError" : Str)) := by
      by_cases e : c2 = ("OutweighedError" : Str)
      · subst e; simp
      · rw [decide_eq_false e, decide_eq_false fun z => e (ga_inj E.base o2 z).symm]
    rw [v0, d1, d2, Bool.or_false]
    rfl
  have isC : ∀ c ∈ eNames subs, ((PySem.W.clsIn K (He.ga K c)).isSome && PySem.W.typeIn K (.ref (He.ga K c)) == some (.type "type")) = true := fun c hc => by
    obtain ⟨bm, N, o, _⟩ := E.one hc
    obtain ⟨cd, h1, _⟩ := o.cls
    rw [h1, o.ty]
    exact beq_self_eq_true _
  have ex : ∀ c ∈ eNames subs, PySem.W.subIn K (.ref (He.ga K c)) (.type "BaseException") = some true := fun c hc => by
    obtain ⟨bm, N, o, _, _, _, hct⟩ := E.one hc
    rw [o.sub, hct]
    have : veList.contains (.type "BaseException") = true := by decide +kernel
    rw [this]
    simp
  refine ⟨fun c hc => ?_, fun c hc => ?_, fun c hc c2 hc2 => ?_, fun c hc c2 hc2 => ?_, fun c hc => ?_⟩
  · obtain ⟨bm, N, o, hb, hi, hr, hct⟩ := E.one hc
    refine ⟨PySem.W.mg_of X G o.ns, ?_, ?_, ?_, ?_, ?_, hi, E.tI, o.keep, ex c hc, o.ty, o.dict, E.fn⟩
    · obtain ⟨q, bs, sn, sub, ab, col, dd, k0, k1, k2, k3, k5, hl⟩ := o.lk
      exact ⟨_, _, _, _, _, _, _, _, _, _, _, _, _, _, _, hl, hr⟩
    · rw [hb _ (by decide)]; exact ve_sa
    · rw [hb _ (by decide)]; exact ve_ga
    · rw [hb _ (by decide)]; exact ve_gg
    · rw [hb _ (by decide)]; exact ve_at
  · obtain ⟨bm, N, o, hb, hi, hr, hct⟩ := E.one hc
    refine ⟨?_, oc_get, oc_set, ?_⟩
    · rw [hb _ (by decide)]; exact ve_cl
    · have z := o.sub (.type "object")
      rw [hct] at z
      have w : veList.contains (.type "object") = true := by decide +kernel
      rw [w] at z
      have z' : PySem.W.mroIn K (He.ga K c) (.type "object") = _ := z
      rw [z']
      simp
  · unfold PySem.W.kitOne
    rw [ref_beq]
    obtain ⟨bm, N, o, _⟩ := E.one hc
    obtain ⟨bm2, N2, o2, _⟩ := E.one hc2
    by_cases e : He.ga K c = He.ga K c2
    · rw [decide_eq_true e, if_pos rfl]
      have e' := ga_inj o o2 e
      subst e'
      simp [errSub]
    · rw [decide_eq_false e, if_neg (by simp)]
      rw [kitCls_ref (isC c2 hc2)]
      exact con c hc c2 hc2
  · unfold PySem.W.exmOne
    rw [ex c2 hc2]
    show (if (some true == some true) = true then PySem.W.kitCls K _ _ else none) = _
    rw [if_pos (by decide)]
    rw [kitCls_ref (isC c2 hc2)]
    exact con c hc c2 hc2
  · unfold PySem.W.kitOne
    have z : ((Value.ref (He.ga K c)) == Value.type "ValueError") = false := by
      refine beq_eq_false_iff_ne.mpr fun z => ?_
      cases z
    rw [z, if_neg (by simp)]
    rw [kitCls_ve]
    obtain ⟨bm, N, o, _, _, _, hct⟩ := E.one hc
    rw [o.sub, hct]
    have w : veList.contains (.type "ValueError") = true := by decide +kernel
    rw [w]
    simp
/-- out of what is seen -/
theorem Sy.errs (y : Sy k ns ss K es) {subs : List Str} {ib : Nat} {p1 p2 q1 q2 q3 q4 : Pos} (hb : ns[k + ib]? = some "OutweighedError")
    (hbs : ss[ib]? = some (clsLit "OutweighedError" veS (some (some ("__init__", "OutweighedError.__init__", PySem.OwX.iA p1 p2, .stmts (PySem.OwX.iB q1 q2 q3 q4), PySem.OwX.iS, mainGlobals, [], .none, builtinsNs, some "OutweighedError.__init__")))))
    (hsub : ∀ c ∈ subs, ∃ i : Nat, ns[k + i]? = some c ∧ ss[i]? = some (clsLit c ((some "OutweighedError", .none) :: veS) none)) (ne : ("OutweighedError" : Str) ∉ subs) : ∃ fI N0, Errs K subs fI N0 := by
  obtain ⟨bm, N0, es', h1, h2, h3, h4, h5, h6⟩ := y.cls ib hb hbs
  have e2 : bm = veList := mro_ve (Ts := ["ValueError", "Exception", "BaseException", "object"]) h2
  subst e2
  have hB : One K "OutweighedError" veList N0 := ⟨h1, h6, fun n hn => lacks_ns h3 (h4 n hn)⟩
  cases q : nsFind es' "__init__" with
  | none => rw [q] at h5; cases h5
  | some v =>
    rw [q] at h5
    have h5' : lookFn (fun a => K.lookup a) v = _ := Option.some.inj h5
    have hv : PySem.W.nsIn K N0 "__init__" = some (some v) := by
      rw [nsIn_ent (g := fun a => K.lookup a) (fun _ => rfl) h3]
      unfold nsFind at q
      cases q2 : es'.find? (·.key.isStr "__init__") with
      | none => rw [q2] at q; cases q
      | some e => rw [q2] at q; cases q; rfl
    unfold lookFn at h5'
    split at h5'
    · rename_i fI
      split at h5'
      · rename_i od fd sl ql
        have ql' : K.lookup fI = some ⟨.type "function", od, .func fd, sl⟩ := ql
        obtain ⟨n1, n2, n3, n4, n5, n6, n7, n8, n9, n10, n11, n12, n13, n14, n15⟩ := fd
        have e := Option.some.inj h5'
        simp only [fnS, Prod.mk.injEq] at e
        obtain ⟨e1, e2, e3, e4, e5, e6, e7, e8, e9, e10⟩ := e
        subst e1 e2 e3 e4 e5 e6 e7 e8 e9
        refine ⟨fI, N0, hB, hv, ?_, ⟨_, od, n10, n11, n12, n13, n14, n9, sl, p1, p2, q1, q2, q3, q4, ql', codeNm_in e10⟩, fun c hc => ?_, ne⟩
        · show (K.lookup fI).map (·.cls) = _
          rw [ql']
          rfl
        · obtain ⟨i, g1, g2⟩ := hsub c hc
          obtain ⟨bm, N, es2, f1, f2, f3, f4, f5, f6⟩ := y.cls i g1 g2
          cases bm with
          | nil => cases f2
          | cons v bm =>
            rw [List.map_cons] at f2
            injection f2 with f2 f2'
            obtain ⟨b, rfl, hb'⟩ := mro_own f2
            have eb := ga_of (nsFind_in y hb')
            have e2 : bm = veList := mro_ve (Ts := ["ValueError", "Exception", "BaseException", "object"]) f2'
            subst e2
            rw [← eb] at f6
            refine ⟨N, ⟨f1, f6, fun n hn => lacks_ns f3 (f4 n hn)⟩, ?_⟩
            have nf : nsFind es2 "__init__" = none := by
              cases q3 : nsFind es2 "__init__" with
              | none => rfl
              | some v => rw [q3] at f5; cases f5
            rw [nsIn_ent (g := fun a => K.lookup a) (fun _ => rfl) f3]
            unfold nsFind at nf
            cases q2 : es2.find? (·.key.isStr "__init__") with
            | none =>
              obtain ⟨_, hr⟩ := lacks_out (f4 "at" (by decide))
              show (if es2.any (·.refKey) = true then none else some none) = _
              rw [hr, if_neg (by simp)]
            | some e => rw [q2] at nf; cases nf
      · cases h5'
    · cases h5'
end
end Hw

set_option Elab.async false
set_option linter.all false
set_option maxRecDepth 100000
set_option maxHeartbeats 4000000
/-! Pl: plain laws over the readings -/
namespace Ow
open PySem PySem.Spec L2
set_option autoImplicit false
/-- a comprehension whose turns leave the slots -/
theorem lcGo {vs : List Nat} {g : DG} {t : Option DE} {f : DE} {keep : D → Bool} {val : D → D} {ρ : Env} : ∀ (ds acc : List D) (P : O → Env → Prop),
    (∀ d ∈ ds, ∀ K : Option D → Env → Prop, K (if keep d = true then some (val d) else none) ρ → lcTurn vs g t f d ρ K) → acc.length + ds.length ≤ sizeLine →
    P (.ok (.own (.lst (acc ++ (ds.filter keep).map val)))) ρ → dLcGo vs g t f ds acc ρ P
  | [], acc, P, _, _, h => by
    unfold dLcGo
    simpa using h
  | d :: ds, acc, P, ht, hl, h => by
    unfold dLcGo
    refine ht d List.mem_cons_self _ ?_
    cases e : keep d with
    | true =>
      rw [if_pos rfl]
      refine ⟨by simp only [List.length_cons] at hl; omega, lcGo ds _ P (fun x hx => ht x (List.mem_cons_of_mem _ hx)) (by rw [List.length_append]; simp only [List.length_cons, List.length_nil] at hl ⊢; omega) ?_⟩
      rw [List.filter_cons_of_pos e, List.map_cons] at h
      simpa using h
    | false =>
      rw [if_neg (by simp)]
      refine lcGo ds acc P (fun x hx => ht x (List.mem_cons_of_mem _ hx)) (by simp only [List.length_cons] at hl; omega) ?_
      rw [List.filter_cons_of_neg (by simp [e])] at h
      exact h
/-- a loop by an invariant of the turn -/
theorem forGo {g : DG} {body : DS} {P : SO → Env → Prop} (I : Nat → Env → Prop) : ∀ (ds : List D) (i : Nat) (ρ : Env), I i ρ →
    (∀ (j : Nat) (d : D) (ρ : Env), ds[j]? = some d → I (i + j) ρ → ∀ K : SO → Env → Prop, (∀ ρ', I (i + j + 1) ρ' → K .nx ρ') → (∀ ρ', I (i + j + 1) ρ' → K .cnt ρ') → (∀ ρ', P .nx ρ' → K .brk ρ') → (∀ r ρ', P (.ret r) ρ' → K (.ret r) ρ') → (∀ c x ρ', P (.ex c x) ρ' → K (.ex c x) ρ') → g d ρ fun ρ1 => body ρ1 K) →
    (∀ ρ, I (i + ds.length) ρ → P .nx ρ) → dForGo g body ds ρ P
  | [], i, ρ, h, _, hn => hn ρ (by simpa using h)
  | d :: ds, i, ρ, h, ht, hn => by
    unfold dForGo
    have go : ∀ ρ', I (i + 0 + 1) ρ' → dForGo g body ds ρ' P := fun ρ' h' =>
      forGo I ds (i + 1) ρ' (by simpa using h') (fun j d' ρ2 hj h2 => by
        have e : i + (j + 1) = i + 1 + j := by omega
        have z := ht (j + 1) d' ρ2 (by simpa using hj) (by rw [e]; exact h2)
        rw [e] at z
        exact z) (fun ρ2 h2 => hn ρ2 (by
          have e : i + (d :: ds).length = i + 1 + ds.length := by simp only [List.length_cons]; omega
          rw [e]
          exact h2))
    refine ht 0 d ρ rfl (by simpa using h) _ go go (fun _ z => z) (fun _ _ z => z) (fun _ _ _ z => z)
/-- a loop as a fold over the slots' state -/
theorem forFold {α : Type} {g : DG} {body : DS} {P : SO → Env → Prop} (st : α → Env) (step : α → D → α) : ∀ (ds : List D) (a : α),
    (∀ d ∈ ds, ∀ a, ∀ K : SO → Env → Prop, K .nx (st (step a d)) → g d (st a) fun ρ1 => body ρ1 K) → P .nx (st (ds.foldl step a)) → dForGo g body ds (st a) P
  | [], a, _, h => h
  | d :: ds, a, ht, h => by
    unfold dForGo
    exact ht d List.mem_cons_self a _ (forFold st step ds (step a d) (fun x hx => ht x (List.mem_cons_of_mem _ hx)) h)
/-! texts as lists of signs -/
abbrev T (l : List Nat) : Str := ⟨l.toArray⟩
theorem T_eta (s : Str) : T s.cps.toList = s := by
  obtain ⟨⟨l⟩⟩ := s
  rfl
theorem T_inj {a b : List Nat} : T a = T b ↔ a = b := ⟨fun h => by injection h with h; injection h, fun h => by rw [h]⟩
theorem T_len (l : List Nat) : (T l).length = l.length := by simp [T, Str.length]
theorem T_add (a b : List Nat) : T a ++ T b = T (a ++ b) := by
  show Str.append _ _ = _
  simp [Str.append, T]
theorem T_signs (l : List Nat) : signsOf (T l) = l.map fun c => D.str (T [c]) := by simp [signsOf, T]
theorem T_subIn (c : Nat) (l : List Nat) : subIn (T [c]) (T l) = decide (c ∈ l) := by simp [subIn, T]
theorem lcMap {α : Type} {vs : List Nat} {g : DG} {t : Option DE} {f : DE} {enc : α → D} {p : α → Bool} {val : α → D} {ρ : Env} : ∀ (l : List α) (acc : List D) (P : O → Env → Prop),
    (∀ c ∈ l, ∀ K : Option D → Env → Prop, K (if p c = true then some (val c) else none) ρ → lcTurn vs g t f (enc c) ρ K) → acc.length + l.length ≤ sizeLine →
    P (.ok (.own (.lst (acc ++ (l.filter p).map val)))) ρ → dLcGo vs g t f (l.map enc) acc ρ P
  | [], acc, P, _, _, h => by
    unfold dLcGo
    simpa using h
  | d :: ds, acc, P, ht, hl, h => by
    rw [List.map_cons]
    unfold dLcGo
    refine ht d List.mem_cons_self _ ?_
    cases e : p d with
    | true =>
      rw [if_pos rfl]
      refine ⟨by simp only [List.length_cons] at hl; omega, lcMap ds _ P (fun x hx => ht x (List.mem_cons_of_mem _ hx)) (by rw [List.length_append]; simp only [List.length_cons, List.length_nil] at hl ⊢; omega) ?_⟩
      rw [List.filter_cons_of_pos e, List.map_cons] at h
      simpa using h
    | false =>
      rw [if_neg (by simp)]
      refine lcMap ds acc P (fun x hx => ht x (List.mem_cons_of_mem _ hx)) (by simp only [List.length_cons] at hl; omega) ?_
      rw [List.filter_cons_of_neg (by simp [e])] at h
      exact h
/-- a sign as a text -/
abbrev sgn (c : Nat) : D := .str (T [c])
theorem lcSigns {vs : List Nat} {g : DG} {t : Option DE} {f : DE} {p : Nat → Bool} {val : Nat → D} {ρ : Env} {l : List Nat} {P : O → Env → Prop}
    (ht : ∀ c ∈ l, ∀ K : Option D → Env → Prop, K (if p c = true then some (val c) else none) ρ → lcTurn vs g t f (sgn c) ρ K) (hl : l.length ≤ sizeLine)
    (h : P (.ok (.own (.lst ((l.filter p).map val)))) ρ) : dLcGo vs g t f (signsOf (T l)) [] ρ P := by
  rw [T_signs]
  exact lcMap l [] P ht (by simpa using hl) (by simpa using h)
theorem allTxt_map : ∀ l : List Str, allTxt (l.map D.str) = some l
  | [] => rfl
  | s :: l => by
    rw [List.map_cons, allTxt, allTxt_map l]
    rfl
theorem join_T (ls : List (List Nat)) : Txt.join (T []) (ls.map T) = T ls.flatten := by
  have e : Txt.join (SX.S []) (ls.map SX.S) = SX.S (TL.joinL [] ls) := SX.join_S [] ls
  have e2 : ∀ ls : List (List Nat), TL.joinL [] ls = ls.flatten := by
    intro ls
    induction ls with
    | nil => rfl
    | cons a r ih =>
      cases r with
      | nil => simp [TL.joinL]
      | cons b r =>
        rw [TL.joinL, ih]
        first | rfl | simp
  rw [e2] at e
  exact e
theorem empty_T : (Str.ofString "" : Str) = T [] := rfl
/-- ''.join of texts -/
theorem jJoin_texts {ls : List (List Nat)} {P : SV → Prop} (hz : ls.flatten.length ≤ 16777216) (h : P (.frz (.str (T ls.flatten)))) : jJoin (.str (T [])) (.lst (ls.map fun l => .str (T l))) P := by
  refine ⟨_, ls.map T, rfl, ?_, ?_, by rw [join_T]; exact h⟩
  · have z := allTxt_map (ls.map T)
    rw [List.map_map] at z
    exact z
  · have e : (List.map (fun x => Str.length x) (ls.map T)).sum = ls.flatten.length := by
      rw [List.map_map, List.length_flatten]
      congr 1
    rw [e]
    simp [T, Str.length] at hz ⊢
    exact hz
theorem jJoin_signs {l : List Nat} {P : SV → Prop} (hz : l.length ≤ 16777216) (h : P (.frz (.str (T l)))) : jJoin (.str (T [])) (.lst (l.map sgn)) P := by
  have e : (l.map fun c => [c]).flatten = l := by
    induction l with
    | nil => rfl
    | cons a l ih =>
      have z : (l.map fun c => [c]).flatten = l := by
        clear ih hz h
        induction l with
        | nil => rfl
        | cons b l ih => simp [ih]
      simp [z]
  have z := jJoin_texts (ls := l.map fun c => [c]) (P := P) (by rw [e]; exact hz) (by rw [e]; exact h)
  rw [List.map_map] at z
  exact z
end Ow

set_option Elab.async false
set_option linter.all false
set_option maxRecDepth 100000
set_option maxHeartbeats 4000000
/-! Pl2: more plain laws -/
namespace Ow
open PySem PySem.Spec L2
set_option autoImplicit false
theorem onB_bl {b : Bool} {A B : Prop} : onB (.frz (.bl b)) A B = (if b = true then A else B) := by
  cases b <;> rfl
theorem ifT {b : Bool} {A B : Prop} (h : b = true → A) (g : b = false → B) : if b = true then A else B := by
  cases b
  · simpa using g rfl
  · simpa using h rfl
theorem SVd_f {d : D} : (SV.frz d).d = d := rfl
theorem SVd_o {d : D} : (SV.own d).d = d := rfl
theorem SVd_b {d : D} : (SV.bor d).d = d := rfl
theorem SVm_f {d : D} : (SV.frz d).mt = none := rfl
theorem SVm_o {d : D} : (SV.own d).mt = some d := rfl
theorem SVm_b {d : D} : (SV.bor d).mt = some d := rfl
theorem SVp_f {d e : D} : (SV.frz d).put e = .frz e := rfl
theorem SVp_o {d e : D} : (SV.own d).put e = .own e := rfl
theorem SVp_b {d e : D} : (SV.bor d).put e = .bor e := rfl
section
variable {P : SV → Prop}
theorem dIn_s {c : Nat} {l : List Nat} : dIn false (.str (T [c])) (.str (T l)) P = P (.frz (.bl (decide (c ∈ l)))) := by
  unfold dIn inAns; simp [T_subIn]
theorem dNotin_s {c : Nat} {l : List Nat} : dIn true (.str (T [c])) (.str (T l)) P = P (.frz (.bl (!decide (c ∈ l)))) := by
  unfold dIn inAns; simp [T_subIn]
theorem dEq_s {a b : Str} : dEq (.str a) (.str b) P = P (.frz (.bl (decide (a = b)))) := rfl
theorem dEq_i {a b : Int} : dEq (.int a) (.int b) P = P (.frz (.bl (decide (a = b)))) := rfl
theorem dEq_b {a b : Bool} : dEq (.bl a) (.bl b) P = P (.frz (.bl (decide (a = b)))) := rfl
theorem dNe_s {a b : Str} : dNe (.str a) (.str b) P = P (.frz (.bl (!decide (a = b)))) := rfl
theorem dNe_i {a b : Int} : dNe (.int a) (.int b) P = P (.frz (.bl (!decide (a = b)))) := rfl
end
end Ow

set_option Elab.async false
set_option linter.all false
set_option maxRecDepth 100000
set_option maxHeartbeats 4000000
/-! Pl3: sorted lists -/
namespace Ow
open PySem PySem.Spec L2
set_option autoImplicit false
theorem srt_perm (key : D → D) (l : List D) : (srtBy key l).Perm l := List.mergeSort_perm _ _
theorem srt_asc (key : D → D) (l : List D) : (srtBy key l).Pairwise fun a b => PySem.W.dataLt (key b).py (key a).py = false := by
  have z := List.pairwise_mergeSort (le := PySem.W.dataLe false fun d => (key d).py) (fun a b c h1 h2 => ?_) (fun a b => ?_) l
  · exact z.imp fun h => by simpa [PySem.W.dataLe_eq] using h
  · simp [PySem.W.dataLe_eq] at h1 h2 ⊢
    cases e : PySem.W.dataLt (key c).py (key a).py with
    | false => rfl
    | true =>
      rcases PyProof.Rows.lex_negTrans _ (PySem.W.keyToks (key b).py) _ e with h | h
      · exact h.symm.trans h2
      · exact h.symm.trans h1
  · simp [PySem.W.dataLe_eq]
    cases e : PySem.W.dataLt (key b).py (key a).py with
    | false => exact .inl rfl
    | true =>
      right
      cases e2 : PySem.W.dataLt (key a).py (key b).py with
      | false => rfl
      | true =>
        have z := PyProof.Rows.lex_trans _ _ _ e e2
        rw [PyProof.Rows.lex_irrefl] at z
        cases z
/-- of tuples by one shape -/
theorem keyOk_of {α : Type} {enc : α → D} {key : D → D} {l : List α} (h1 : ∀ a, (key (enc a)).pur = true) (h2 : ∀ a b, PySem.W.alike (key (enc a)).py (key (enc b)).py = true) (h3 : ∀ a, ∃ x r, (key (enc a)).py = .tuple (x :: r)) (h4 : l.length ≤ sizeLine)
    (h5 : ∀ a, (key (enc a)).py.depth < 64) : KeyOk (l.map enc) key := by
  refine ⟨fun d hd => ?_, ?_, ?_, by rw [List.length_map]; exact h4, fun d hd => ?_⟩
  · obtain ⟨a, _, rfl⟩ := List.mem_map.mp hd
    exact h1 a
  · rw [List.map_map]
    exact PySem.W.AllAlike.of (enc := fun a => (key (enc a)).py) h2
  · rw [List.map_map]
    exact PySem.W.Sortable.tuples (enc := fun a => (key (enc a)).py) h3
  · obtain ⟨a, _, rfl⟩ := List.mem_map.mp hd
    exact h5 a
/-- the lists of their encodings, up to order -/
theorem perm_map {α : Type} {enc : α → D} : ∀ {l : List α} {m : List D}, m.Perm (l.map enc) → ∃ l' : List α, l'.Perm l ∧ m = l'.map enc := by
  intro l m h
  have key : ∀ {a b : List D}, a.Perm b → ∀ l : List α, b = l.map enc → ∃ l' : List α, l'.Perm l ∧ a = l'.map enc := by
    intro a b h
    induction h with
    | nil => intro l e; exact ⟨l, .refl _, e⟩
    | cons x p ih =>
      intro l e
      match l, e with
      | y :: l, e =>
        simp at e
        obtain ⟨l', p', e'⟩ := ih l e.2
        exact ⟨y :: l', p'.cons y, by simp [e.1, e']⟩
    | swap x y l0 =>
      intro l e
      match l, e with
      | u :: v :: l, e =>
        simp at e
        exact ⟨v :: u :: l, .swap _ _ _, by simp [e]⟩
      | [u], e => simp at e
      | [], e => simp at e
    | trans p1 p2 ih1 ih2 =>
      intro l e
      obtain ⟨l2, q2, e2⟩ := ih2 l e
      obtain ⟨l1, q1, e1⟩ := ih1 l2 e2
      exact ⟨l1, q1.trans q2, e1⟩
  exact key h l rfl
theorem srt_map {α : Type} {enc : α → D} {key : D → D} (l : List α) : ∃ l' : List α, l'.Perm l ∧ srtBy key (l.map enc) = l'.map enc ∧ l'.Pairwise fun a b => PySem.W.dataLt (key (enc b)).py (key (enc a)).py = false := by
  obtain ⟨l', p, e⟩ := perm_map (srt_perm key (l.map enc))
  refine ⟨l', p, e, ?_⟩
  have z := srt_asc key (l.map enc)
  rw [e, List.pairwise_map] at z
  exact z
/-- a loop as a fold, what is left of the list in the invariant -/
theorem forMap {α β : Type} {g : DG} {body : DS} {P : SO → Env → Prop} {enc : β → D} (st : α → Env) (step : α → β → α) (I : List β → α → Prop)
    (ht : ∀ b r a, I (b :: r) a → I r (step a b) ∧ ∀ K : SO → Env → Prop, K .nx (st (step a b)) → g (enc b) (st a) fun ρ1 => body ρ1 K) : ∀ (l : List β) (a : α), I l a → (I [] (l.foldl step a) → P .nx (st (l.foldl step a))) → dForGo g body (l.map enc) (st a) P
  | [], a, hi, h => h hi
  | b :: l, a, hi, h => by
    rw [List.map_cons]
    unfold dForGo
    obtain ⟨h1, h2⟩ := ht b l a hi
    exact h2 _ (forMap st step I ht l (step a b) h1 h)
/-- a comprehension of all -/
theorem lcAll {α : Type} {vs : List Nat} {g : DG} {t : Option DE} {f : DE} {enc : α → D} {val : α → D} {ρ : Env} (l : List α) (acc : List D) (P : O → Env → Prop)
    (ht : ∀ c ∈ l, ∀ K : Option D → Env → Prop, K (some (val c)) ρ → lcTurn vs g t f (enc c) ρ K) (hl : acc.length + l.length ≤ sizeLine)
    (h : P (.ok (.own (.lst (acc ++ l.map val)))) ρ) : dLcGo vs g t f (l.map enc) acc ρ P :=
  lcMap (p := fun _ => true) l acc P (fun c hc K hk => ht c hc K (by simpa using hk)) hl (by rw [List.filter_eq_self.mpr (fun _ _ => rfl)]; exact h)
/-- a loop that may end with a return -/
theorem forEnd {α β : Type} {g : DG} {body : DS} {P : SO → Env → Prop} {enc : β → D} (st : α → Env) (step : α → β → Option α) (res : SV) (I : List β → α → Prop)
    (hy : ∀ b r a a', I (b :: r) a → step a b = some a' → I r a' ∧ ∀ K : SO → Env → Prop, K .nx (st a') → g (enc b) (st a) fun ρ1 => body ρ1 K)
    (hn : ∀ b r a, I (b :: r) a → step a b = none → ∀ K : SO → Env → Prop, (∀ ρ, K (.ret res) ρ) → g (enc b) (st a) fun ρ1 => body ρ1 K) : ∀ (l : List β) (a : α), I l a → (∀ a', l.foldlM step a = some a' → I [] a' → P .nx (st a')) → (l.foldlM step a = none → ∀ ρ, P (.ret res) ρ) → dForGo g body (l.map enc) (st a) P
  | [], a, hi, h, _ => h a rfl hi
  | b :: l, a, hi, h, h2 => by
    rw [List.map_cons]
    unfold dForGo
    cases e : step a b with
    | none => exact hn b l a hi e _ fun ρ => h2 (by rw [List.foldlM_cons, e]; rfl) ρ
    | some a' =>
      obtain ⟨h3, h4⟩ := hy b l a a' hi e
      exact h4 _ (forEnd st step res I hy hn l a' h3 (fun a'' ea => h a'' (by rw [List.foldlM_cons, e]; exact ea)) fun ea => h2 (by rw [List.foldlM_cons, e]; exact ea))
/-- a loop by an invariant of what is left -/
theorem forInv {β : Type} {g : DG} {body : DS} {P : SO → Env → Prop} {enc : β → D} (I : List β → Env → Prop)
    (ht : ∀ b r ρ, I (b :: r) ρ → ∀ K : SO → Env → Prop, (∀ ρ', I r ρ' → K .nx ρ') → (∀ x ρ', P (.ret x) ρ' → K (.ret x) ρ') → g (enc b) ρ fun ρ1 => body ρ1 K) : ∀ (l : List β) (ρ : Env), I l ρ → (∀ ρ, I [] ρ → P .nx ρ) → dForGo g body (l.map enc) ρ P
  | [], ρ, hi, h => h ρ hi
  | b :: l, ρ, hi, h => by
    rw [List.map_cons]
    unfold dForGo
    exact ht b l ρ hi _ (fun ρ' h' => forInv I ht l ρ' h' h) fun _ _ z => z
end Ow

set_option Elab.async false
set_option linter.all false
set_option maxRecDepth 100000
set_option maxHeartbeats 4000000
/-! Pl4: comprehensions that draw; ints -/
namespace Ow
open PySem PySem.Spec L2
set_option autoImplicit false
/-- a comprehension by an invariant of what is left, what is found, and the slots -/
theorem lcInv {β : Type} {vs : List Nat} {g : DG} {t : Option DE} {f : DE} {enc : β → D} (I : List β → List D → Env → Prop) {P : O → Env → Prop}
    (ht : ∀ b r acc ρ, I (b :: r) acc ρ → ∀ K : Option D → Env → Prop, (∀ v ρ', I r (acc ++ [v]) ρ' → K (some v) ρ') → (∀ ρ', I r acc ρ' → K none ρ') → lcTurn vs g t f (enc b) ρ K) : ∀ (l : List β) (acc : List D) (ρ : Env), I l acc ρ → acc.length + l.length ≤ sizeLine →
    (∀ acc' ρ', I [] acc' ρ' → P (.ok (.own (.lst acc'))) ρ') → dLcGo vs g t f (l.map enc) acc ρ P
  | [], acc, ρ, hi, _, h => by
    rw [List.map_nil]
    unfold dLcGo
    exact h _ _ hi
  | b :: l, acc, ρ, hi, hl, h => by
    rw [List.map_cons]
    unfold dLcGo
    simp only [List.length_cons] at hl
    refine ht b l acc ρ hi _ (fun v ρ' h' => ?_) (fun ρ' h' => ?_)
    · exact ⟨by omega, lcInv I ht l _ ρ' h' (by rw [List.length_append]; simp only [List.length_cons, List.length_nil]; omega) h⟩
    · exact lcInv I ht l _ ρ' h' (by omega) h
theorem l2_lt {i : Int} {k : Nat} (h0 : 0 ≤ i) (h : i < 2 ^ k) (hk : 0 < k) : i.natAbs.log2 < k := by
  by_cases z : i.natAbs = 0
  · rw [z]
    simpa using hk
  · rw [Nat.log2_lt z]
    have : (i.natAbs : Int) < ((2 ^ k : Nat) : Int) := by
      rw [Int.natAbs_of_nonneg h0]
      simpa using h
    exact_mod_cast this
theorem ifP {c : Prop} [Decidable c] {A B : Prop} (h : c → A) (g : ¬c → B) : if c then A else B := by
  split
  · exact h ‹_›
  · exact g ‹_›
section
variable {P : SV → Prop}
theorem dAdd_i {a b : Int} : dAdd (.int a) (.int b) P = P (.frz (.int (a + b))) := rfl
theorem dSub_i {a b : Int} : dSub (.int a) (.int b) P = P (.frz (.int (a - b))) := rfl
theorem dMul_i {a b : Int} (ha : a.natAbs.log2 < 400000) (hb : b.natAbs.log2 < 400000) (h : P (.frz (.int (a * b)))) : dMul2 (.int a) (.int b) P := ⟨by omega, h⟩
theorem dMod_i {a b : Int} (hb : 0 < b) (h : P (.frz (.int (a % b)))) : dMod (.int a) (.int b) P := ⟨hb, h⟩
theorem dDiv_i {a b : Int} (hb : 0 < b) (hb2 : b < 2 ^ 200) (h : P (.frz (.int (a / b)))) : dDiv (.int a) (.int b) P := ⟨⟨hb, Nat.lt_trans (l2_lt (by omega) hb2 (by decide)) (by decide)⟩, h⟩
theorem dInt_i {a : Int} {P : SV → Prop} : dInt [.int a] P = P (.frz (.int a)) := rfl
theorem dLt_i {a b : Int} : dLtD (.int a) (.int b) P = P (.frz (.bl (decide (a < b)))) := rfl
theorem dGt_i {a b : Int} : dGt (.int a) (.int b) P = P (.frz (.bl (decide (b < a)))) := rfl
theorem dGe_i {a b : Int} : dGe (.int a) (.int b) P = P (.frz (.bl (decide (b ≤ a)))) := rfl
theorem dLe_i {a b : Int} : dLeD (.int a) (.int b) P = P (.frz (.bl (decide (a ≤ b)))) := rfl
end
end Ow

set_option Elab.async false
set_option linter.all false
set_option maxRecDepth 100000
set_option maxHeartbeats 4000000
namespace K01
open PySem PySem.Spec L2 Ow
set_option autoImplicit false
/-- the six fields -/
abbrev FL : List Nat := [97, 98, 99, 100, 101, 102]
theorem FL_T : (Str.ofString "abcdef" : Str) = T FL := rfl
/-- what of a is in b -/
def cut (a b : List Nat) : List Nat := a.filter (fun c => decide (c ∈ b))
def off (a b : List Nat) : List Nat := a.filter (fun c => !decide (c ∈ b))
def join (a b : List Nat) : List Nat := FL.filter (fun c => decide (c ∈ a) || decide (c ∈ b))
theorem mem_cut {a b : List Nat} {c : Nat} : c ∈ cut a b ↔ c ∈ a ∧ c ∈ b := by simp [cut]
theorem mem_off {a b : List Nat} {c : Nat} : c ∈ off a b ↔ c ∈ a ∧ ¬ c ∈ b := by simp [off]
theorem mem_join {a b : List Nat} {c : Nat} : c ∈ join a b ↔ c ∈ FL ∧ (c ∈ a ∨ c ∈ b) := by simp [join]
theorem len_cut {a b : List Nat} : (cut a b).length ≤ a.length := List.length_filter_le _ _
theorem len_off {a b : List Nat} : (off a b).length ≤ a.length := List.length_filter_le _ _
theorem len_join {a b : List Nat} : (join a b).length ≤ 6 := List.length_filter_le _ _
def lotOn (f d : List Nat) : Bool := decide (d.length ≤ f.length) && decide (cut f d = d)
namespace S
def lot_on : DSp := fun cs ds P => ∃ f d : List Nat, cs = [] ∧ ds = [.str (T f), .str (T d)] ∧ f.length ≤ 1000000 ∧ d.length ≤ 1000000 ∧ P (.ok (.frz (.bl (lotOn f d)))) []
def _law_is_lot : DSp := fun cs ds P => ∃ f d : List Nat, cs = [] ∧ ds = [.str (T f), .str (T d)] ∧ f.length ≤ 1000000 ∧ P (.ok (.frz (.bl (decide (cut f d = d))))) []
def shared : DSp := fun cs ds P => ∃ a b : List Nat, cs = [] ∧ ds = [.str (T a), .str (T b)] ∧ a.length ≤ 1000000 ∧ P (.ok (.frz (.str (T (cut a b))))) []
def without : DSp := fun cs ds P => ∃ a b : List Nat, cs = [] ∧ ds = [.str (T a), .str (T b)] ∧ a.length ≤ 1000000 ∧ P (.ok (.frz (.str (T (off a b))))) []
def joined : DSp := fun cs ds P => ∃ a b : List Nat, cs = [] ∧ ds = [.str (T a), .str (T b)] ∧ P (.ok (.frz (.str (T (join a b))))) []
def _law_common : DSp := shared
def _law_less : DSp := without
def _law_union : DSp := joined
end S
def r_shared : DS := (dRet (dM1 jJoin (dC (.str "")) (dLc (dItems (dVar 0)) [2] (gN 2) (some (dOp (dIn false) (dVar 2) (dVarV 1))) (dVar 2))))
def N_shared : List Str := ["one", "two", "field"]
def r_without : DS := (dRet (dM1 jJoin (dC (.str "")) (dLc (dItems (dVar 0)) [2] (gN 2) (some (dOp (dIn true) (dVar 2) (dVarV 1))) (dVar 2))))
def N_without : List Str := ["one", "two", "field"]
def r_joined : DS := (dRet (dM1 jJoin (dC (.str "")) (dLc (dItems (dC (.str "abcdef"))) [2] (gN 2) (some (dOr (dOp (dIn false) (dVar 2) (dVarV 0)) (dOp (dIn false) (dVar 2) (dVarV 1)))) (dVar 2))))
def N_joined : List Str := ["one", "two", "field"]
def r__law_common : DS := (dRet (dM1 jJoin (dC (.str "")) (dLc (dItems (dVar 0)) [2] (gN 2) (some (dOp (dIn false) (dVar 2) (dVarV 1))) (dVar 2))))
def N__law_common : List Str := ["one", "two", "field"]
def r__law_less : DS := (dRet (dM1 jJoin (dC (.str "")) (dLc (dItems (dVar 0)) [2] (gN 2) (some (dOp (dIn true) (dVar 2) (dVarV 1))) (dVar 2))))
def N__law_less : List Str := ["one", "two", "field"]
def r__law_union : DS := (dRet (dM1 jJoin (dC (.str "")) (dLc (dItems (dC (.str "abcdef"))) [2] (gN 2) (some (dOr (dOp (dIn false) (dVar 2) (dVarV 0)) (dOp (dIn false) (dVar 2) (dVarV 1)))) (dVar 2))))
def N__law_union : List Str := ["one", "two", "field"]
def r_lot_on : DS := (dSeq (dIf (dOr (dNot (dIsi [.str] (dVarV 1))) (dOp dGt (dCall dLen (daCons (dVarV 1) daNil)) (dCall dLen (daCons (dVarV 0) daNil)))) (dRet (dC (.bl false))) dPass) (dRet (dOp dEq (dM1 jJoin (dC (.str "")) (dLc (dItems (dVar 0)) [2] (gN 2) (some (dOp (dIn false) (dVar 2) (dVarV 1))) (dVar 2))) (dVarV 1))))
def N_lot_on : List Str := ["fields", "text", "field"]
def r__law_is_lot : DS := (dRet (dAnd (dIsi [.str] (dVarV 1)) (dOp dEq (dVar 1) (dM1 jJoin (dC (.str "")) (dLc (dItems (dVar 0)) [2] (gN 2) (some (dOp (dIn false) (dVar 2) (dVarV 1))) (dVar 2))))))
def N__law_is_lot : List Str := ["fields", "thing", "field"]
theorem p_shared : ∀ cs ds P, S.shared cs ds P → cs.length = 0 ∧ cs.length + ds.length = 2 ∧ r_shared (startD N_shared cs ds) (endP 0 P) := by
  rintro _ _ P ⟨a, b, rfl, rfl, h1, hp⟩
  refine ⟨rfl, rfl, ?_⟩
  simp [r_shared, N_shared, startD, endP, outs, dRet, dRetV, dsThen, dM1, dThen, daThen, dC, dLc, dItems, dVar, dVarV, still, D.items, D.isTxt, wipeD, SVd_f, SVd_o, SVd_b, SVm_f, SVm_o, SVm_b, SVp_f, SVp_o, SVp_b, dOp, dIn_s, dNotin_s, dEq_s, dEq_i, dEq_b, dNe_s, dNe_i, T_len, T_inj, dTT, lcTurn, gN, nbor, onB_bl, nborL, backD, T_subIn, dCall, daCons, daNil, dTup, dLst, dSeq, dIf, dPass, dSet, dDrop, dAsg, dOr, dAnd, dNot, dIfE, dIxV, dFn, dFnB, gT, gsCons, gsNil]
  refine lcSigns (p := fun c => decide (c ∈ b)) (val := sgn) (fun c _ K h => ?_) (by unfold sizeLine; omega) ?_
  · by_cases hc : c ∈ b <;> simp [startD, endP, outs, dRet, dRetV, dsThen, dM1, dThen, daThen, dC, dLc, dItems, dVar, dVarV, still, D.items, D.isTxt, wipeD, SVd_f, SVd_o, SVd_b, SVm_f, SVm_o, SVm_b, SVp_f, SVp_o, SVp_b, dOp, dIn_s, dNotin_s, dEq_s, dEq_i, dEq_b, dNe_s, dNe_i, T_len, T_inj, dTT, lcTurn, gN, nbor, onB_bl, nborL, backD, T_subIn, dCall, daCons, daNil, dTup, dLst, dSeq, dIf, dPass, dSet, dDrop, dAsg, dOr, dAnd, dNot, dIfE, dIxV, dFn, dFnB, gT, gsCons, gsNil, hc] at h ⊢ <;> exact h
  · simp [empty_T]
    refine jJoin_signs (Nat.le_trans (List.length_filter_le _ _) (by omega)) ?_
    simpa [startD, endP, outs, dRet, dRetV, dsThen, dM1, dThen, daThen, dC, dLc, dItems, dVar, dVarV, still, D.items, D.isTxt, wipeD, SVd_f, SVd_o, SVd_b, SVm_f, SVm_o, SVm_b, SVp_f, SVp_o, SVp_b, dOp, dIn_s, dNotin_s, dEq_s, dEq_i, dEq_b, dNe_s, dNe_i, T_len, T_inj, dTT, lcTurn, gN, nbor, onB_bl, nborL, backD, T_subIn, dCall, daCons, daNil, dTup, dLst, dSeq, dIf, dPass, dSet, dDrop, dAsg, dOr, dAnd, dNot, dIfE, dIxV, dFn, dFnB, gT, gsCons, gsNil, cut, off, join] using hp
theorem p__law_common : ∀ cs ds P, S._law_common cs ds P → cs.length = 0 ∧ cs.length + ds.length = 2 ∧ r__law_common (startD N__law_common cs ds) (endP 0 P) := p_shared
theorem p_without : ∀ cs ds P, S.without cs ds P → cs.length = 0 ∧ cs.length + ds.length = 2 ∧ r_without (startD N_without cs ds) (endP 0 P) := by
  rintro _ _ P ⟨a, b, rfl, rfl, h1, hp⟩
  refine ⟨rfl, rfl, ?_⟩
  simp [r_without, N_without, startD, endP, outs, dRet, dRetV, dsThen, dM1, dThen, daThen, dC, dLc, dItems, dVar, dVarV, still, D.items, D.isTxt, wipeD, SVd_f, SVd_o, SVd_b, SVm_f, SVm_o, SVm_b, SVp_f, SVp_o, SVp_b, dOp, dIn_s, dNotin_s, dEq_s, dEq_i, dEq_b, dNe_s, dNe_i, T_len, T_inj, dTT, lcTurn, gN, nbor, onB_bl, nborL, backD, T_subIn, dCall, daCons, daNil, dTup, dLst, dSeq, dIf, dPass, dSet, dDrop, dAsg, dOr, dAnd, dNot, dIfE, dIxV, dFn, dFnB, gT, gsCons, gsNil]
  refine lcSigns (p := fun c => !decide (c ∈ b)) (val := sgn) (fun c _ K h => ?_) (by unfold sizeLine; omega) ?_
  · by_cases hc : c ∈ b <;> simp [startD, endP, outs, dRet, dRetV, dsThen, dM1, dThen, daThen, dC, dLc, dItems, dVar, dVarV, still, D.items, D.isTxt, wipeD, SVd_f, SVd_o, SVd_b, SVm_f, SVm_o, SVm_b, SVp_f, SVp_o, SVp_b, dOp, dIn_s, dNotin_s, dEq_s, dEq_i, dEq_b, dNe_s, dNe_i, T_len, T_inj, dTT, lcTurn, gN, nbor, onB_bl, nborL, backD, T_subIn, dCall, daCons, daNil, dTup, dLst, dSeq, dIf, dPass, dSet, dDrop, dAsg, dOr, dAnd, dNot, dIfE, dIxV, dFn, dFnB, gT, gsCons, gsNil, hc] at h ⊢ <;> exact h
  · simp [empty_T]
    refine jJoin_signs (Nat.le_trans (List.length_filter_le _ _) (by omega)) ?_
    simpa [startD, endP, outs, dRet, dRetV, dsThen, dM1, dThen, daThen, dC, dLc, dItems, dVar, dVarV, still, D.items, D.isTxt, wipeD, SVd_f, SVd_o, SVd_b, SVm_f, SVm_o, SVm_b, SVp_f, SVp_o, SVp_b, dOp, dIn_s, dNotin_s, dEq_s, dEq_i, dEq_b, dNe_s, dNe_i, T_len, T_inj, dTT, lcTurn, gN, nbor, onB_bl, nborL, backD, T_subIn, dCall, daCons, daNil, dTup, dLst, dSeq, dIf, dPass, dSet, dDrop, dAsg, dOr, dAnd, dNot, dIfE, dIxV, dFn, dFnB, gT, gsCons, gsNil, cut, off, join] using hp
theorem p__law_less : ∀ cs ds P, S._law_less cs ds P → cs.length = 0 ∧ cs.length + ds.length = 2 ∧ r__law_less (startD N__law_less cs ds) (endP 0 P) := p_without
theorem p_joined : ∀ cs ds P, S.joined cs ds P → cs.length = 0 ∧ cs.length + ds.length = 2 ∧ r_joined (startD N_joined cs ds) (endP 0 P) := by
  rintro _ _ P ⟨a, b, rfl, rfl, hp⟩
  refine ⟨rfl, rfl, ?_⟩
  simp [r_joined, N_joined, startD, endP, outs, dRet, dRetV, dsThen, dM1, dThen, daThen, dC, dLc, dItems, dVar, dVarV, still, D.items, D.isTxt, wipeD, SVd_f, SVd_o, SVd_b, SVm_f, SVm_o, SVm_b, SVp_f, SVp_o, SVp_b, dOp, dIn_s, dNotin_s, dEq_s, dEq_i, dEq_b, dNe_s, dNe_i, T_len, T_inj, dTT, lcTurn, gN, nbor, onB_bl, nborL, backD, T_subIn, dCall, daCons, daNil, dTup, dLst, dSeq, dIf, dPass, dSet, dDrop, dAsg, dOr, dAnd, dNot, dIfE, dIxV, dFn, dFnB, gT, gsCons, gsNil, FL_T]
  refine lcSigns (p := fun c => decide (c ∈ a) || decide (c ∈ b)) (val := sgn) (fun c _ K h => ?_) (by unfold sizeLine; decide) ?_
  · by_cases hc : c ∈ a <;> by_cases hd : c ∈ b <;> simp [startD, endP, outs, dRet, dRetV, dsThen, dM1, dThen, daThen, dC, dLc, dItems, dVar, dVarV, still, D.items, D.isTxt, wipeD, SVd_f, SVd_o, SVd_b, SVm_f, SVm_o, SVm_b, SVp_f, SVp_o, SVp_b, dOp, dIn_s, dNotin_s, dEq_s, dEq_i, dEq_b, dNe_s, dNe_i, T_len, T_inj, dTT, lcTurn, gN, nbor, onB_bl, nborL, backD, T_subIn, dCall, daCons, daNil, dTup, dLst, dSeq, dIf, dPass, dSet, dDrop, dAsg, dOr, dAnd, dNot, dIfE, dIxV, dFn, dFnB, gT, gsCons, gsNil, hc, hd] at h ⊢ <;> exact h
  · simp [empty_T]
    refine jJoin_signs (Nat.le_trans (List.length_filter_le _ _) (by decide)) ?_
    simpa [startD, endP, outs, dRet, dRetV, dsThen, dM1, dThen, daThen, dC, dLc, dItems, dVar, dVarV, still, D.items, D.isTxt, wipeD, SVd_f, SVd_o, SVd_b, SVm_f, SVm_o, SVm_b, SVp_f, SVp_o, SVp_b, dOp, dIn_s, dNotin_s, dEq_s, dEq_i, dEq_b, dNe_s, dNe_i, T_len, T_inj, dTT, lcTurn, gN, nbor, onB_bl, nborL, backD, T_subIn, dCall, daCons, daNil, dTup, dLst, dSeq, dIf, dPass, dSet, dDrop, dAsg, dOr, dAnd, dNot, dIfE, dIxV, dFn, dFnB, gT, gsCons, gsNil, cut, off, join] using hp
theorem p__law_union : ∀ cs ds P, S._law_union cs ds P → cs.length = 0 ∧ cs.length + ds.length = 2 ∧ r__law_union (startD N__law_union cs ds) (endP 0 P) := p_joined
theorem p_lot_on : ∀ cs ds P, S.lot_on cs ds P → cs.length = 0 ∧ cs.length + ds.length = 2 ∧ r_lot_on (startD N_lot_on cs ds) (endP 0 P) := by
  rintro _ _ P ⟨f, d, rfl, rfl, h1, h2, hp⟩
  refine ⟨rfl, rfl, ?_⟩
  simp [r_lot_on, N_lot_on, startD, endP, outs, dRet, dRetV, dsThen, dM1, dThen, daThen, dC, dLc, dItems, dVar, dVarV, still, D.items, D.isTxt, wipeD, SVd_f, SVd_o, SVd_b, SVm_f, SVm_o, SVm_b, SVp_f, SVp_o, SVp_b, dOp, dIn_s, dNotin_s, dEq_s, dEq_i, dEq_b, dNe_s, dNe_i, T_len, T_inj, dTT, lcTurn, gN, nbor, onB_bl, nborL, backD, T_subIn, dCall, daCons, daNil, dTup, dLst, dSeq, dIf, dPass, dSet, dDrop, dAsg, dOr, dAnd, dNot, dIfE, dIxV, dFn, dFnB, gT, gsCons, gsNil, dIsi, D.isaL, D.isa, dLen, dGt]
  refine ⟨by unfold sizeLine; omega, by unfold sizeLine; omega, ?_⟩
  unfold lotOn at hp
  split
  · rename_i h
    rw [decide_eq_false (by omega), Bool.false_and] at hp
    exact hp
  rename_i h
  rw [decide_eq_true (by omega), Bool.true_and] at hp
  refine lcSigns (p := fun c => decide (c ∈ d)) (val := sgn) (fun c _ K h => ?_) (by unfold sizeLine; omega) ?_
  · by_cases hc : c ∈ d <;> simp [startD, endP, outs, dRet, dRetV, dsThen, dM1, dThen, daThen, dC, dLc, dItems, dVar, dVarV, still, D.items, D.isTxt, wipeD, SVd_f, SVd_o, SVd_b, SVm_f, SVm_o, SVm_b, SVp_f, SVp_o, SVp_b, dOp, dIn_s, dNotin_s, dEq_s, dEq_i, dEq_b, dNe_s, dNe_i, T_len, T_inj, dTT, lcTurn, gN, nbor, onB_bl, nborL, backD, T_subIn, dCall, daCons, daNil, dTup, dLst, dSeq, dIf, dPass, dSet, dDrop, dAsg, dOr, dAnd, dNot, dIfE, dIxV, dFn, dFnB, gT, gsCons, gsNil, hc] at h ⊢ <;> exact h
  · simp [startD, endP, outs, dRet, dRetV, dsThen, dM1, dThen, daThen, dC, dLc, dItems, dVar, dVarV, still, D.items, D.isTxt, wipeD, SVd_f, SVd_o, SVd_b, SVm_f, SVm_o, SVm_b, SVp_f, SVp_o, SVp_b, dOp, dIn_s, dNotin_s, dEq_s, dEq_i, dEq_b, dNe_s, dNe_i, T_len, T_inj, dTT, lcTurn, gN, nbor, onB_bl, nborL, backD, T_subIn, dCall, daCons, daNil, dTup, dLst, dSeq, dIf, dPass, dSet, dDrop, dAsg, dOr, dAnd, dNot, dIfE, dIxV, dFn, dFnB, gT, gsCons, gsNil, empty_T]
    refine jJoin_signs (Nat.le_trans (List.length_filter_le _ _) (by omega)) ?_
    unfold cut at hp
    simpa [startD, endP, outs, dRet, dRetV, dsThen, dM1, dThen, daThen, dC, dLc, dItems, dVar, dVarV, still, D.items, D.isTxt, wipeD, SVd_f, SVd_o, SVd_b, SVm_f, SVm_o, SVm_b, SVp_f, SVp_o, SVp_b, dOp, dIn_s, dNotin_s, dEq_s, dEq_i, dEq_b, dNe_s, dNe_i, T_len, T_inj, dTT, lcTurn, gN, nbor, onB_bl, nborL, backD, T_subIn, dCall, daCons, daNil, dTup, dLst, dSeq, dIf, dPass, dSet, dDrop, dAsg, dOr, dAnd, dNot, dIfE, dIxV, dFn, dFnB, gT, gsCons, gsNil] using hp
theorem p__law_is_lot : ∀ cs ds P, S._law_is_lot cs ds P → cs.length = 0 ∧ cs.length + ds.length = 2 ∧ r__law_is_lot (startD N__law_is_lot cs ds) (endP 0 P) := by
  rintro _ _ P ⟨f, d, rfl, rfl, h1, hp⟩
  refine ⟨rfl, rfl, ?_⟩
  simp [r__law_is_lot, N__law_is_lot, startD, endP, outs, dRet, dRetV, dsThen, dM1, dThen, daThen, dC, dLc, dItems, dVar, dVarV, still, D.items, D.isTxt, wipeD, SVd_f, SVd_o, SVd_b, SVm_f, SVm_o, SVm_b, SVp_f, SVp_o, SVp_b, dOp, dIn_s, dNotin_s, dEq_s, dEq_i, dEq_b, dNe_s, dNe_i, T_len, T_inj, dTT, lcTurn, gN, nbor, onB_bl, nborL, backD, T_subIn, dCall, daCons, daNil, dTup, dLst, dSeq, dIf, dPass, dSet, dDrop, dAsg, dOr, dAnd, dNot, dIfE, dIxV, dFn, dFnB, gT, gsCons, gsNil, dIsi, D.isaL, D.isa]
  refine lcSigns (p := fun c => decide (c ∈ d)) (val := sgn) (fun c _ K h => ?_) (by unfold sizeLine; omega) ?_
  · by_cases hc : c ∈ d <;> simp [startD, endP, outs, dRet, dRetV, dsThen, dM1, dThen, daThen, dC, dLc, dItems, dVar, dVarV, still, D.items, D.isTxt, wipeD, SVd_f, SVd_o, SVd_b, SVm_f, SVm_o, SVm_b, SVp_f, SVp_o, SVp_b, dOp, dIn_s, dNotin_s, dEq_s, dEq_i, dEq_b, dNe_s, dNe_i, T_len, T_inj, dTT, lcTurn, gN, nbor, onB_bl, nborL, backD, T_subIn, dCall, daCons, daNil, dTup, dLst, dSeq, dIf, dPass, dSet, dDrop, dAsg, dOr, dAnd, dNot, dIfE, dIxV, dFn, dFnB, gT, gsCons, gsNil, hc] at h ⊢ <;> exact h
  · simp [startD, endP, outs, dRet, dRetV, dsThen, dM1, dThen, daThen, dC, dLc, dItems, dVar, dVarV, still, D.items, D.isTxt, wipeD, SVd_f, SVd_o, SVd_b, SVm_f, SVm_o, SVm_b, SVp_f, SVp_o, SVp_b, dOp, dIn_s, dNotin_s, dEq_s, dEq_i, dEq_b, dNe_s, dNe_i, T_len, T_inj, dTT, lcTurn, gN, nbor, onB_bl, nborL, backD, T_subIn, dCall, daCons, daNil, dTup, dLst, dSeq, dIf, dPass, dSet, dDrop, dAsg, dOr, dAnd, dNot, dIfE, dIxV, dFn, dFnB, gT, gsCons, gsNil, empty_T]
    refine jJoin_signs (Nat.le_trans (List.length_filter_le _ _) (by omega)) ?_
    unfold cut at hp
    simpa [startD, endP, outs, dRet, dRetV, dsThen, dM1, dThen, daThen, dC, dLc, dItems, dVar, dVarV, still, D.items, D.isTxt, wipeD, SVd_f, SVd_o, SVd_b, SVm_f, SVm_o, SVm_b, SVp_f, SVp_o, SVp_b, dOp, dIn_s, dNotin_s, dEq_s, dEq_i, dEq_b, dNe_s, dNe_i, T_len, T_inj, dTT, lcTurn, gN, nbor, onB_bl, nborL, backD, T_subIn, dCall, daCons, daNil, dTup, dLst, dSeq, dIf, dPass, dSet, dDrop, dAsg, dOr, dAnd, dNot, dIfE, dIxV, dFn, dFnB, gT, gsCons, gsNil, eq_comm] using hp
end K01

set_option Elab.async false
set_option linter.all false
set_option maxRecDepth 100000
set_option maxHeartbeats 4000000
namespace K01
open PySem PySem.Spec L2 Ow
set_option autoImplicit false
/-- a case, or what is told as one -/
abbrev Cs := List (List Nat)
abbrev tD (x : List Nat) : D := .str (T x)
abbrev cD (l : Cs) : D := .tup (l.map tD)
def goodC (f : List Nat) : Cs → Bool
  | [a, b] => lotOn f a && lotOn f b && decide (cut a b = [])
  | _ => false
def fok (f : List Nat) : Bool := lotOn FL f && !decide (f = [])
abbrev sm (x : List Nat) : Prop := x.length ≤ 1000000
abbrev smC (l : Cs) : Prop := l.length ≤ 100 ∧ ∀ x ∈ l, sm x
/-- the first fault of the cases told -/
def cErr (f : List Nat) : List Cs → Option (Str × D)
  | [] => none
  | l :: r => if goodC f l then cErr f r else some ("BadCase", cD l)
def mErr (f : List Nat) (ls : List Cs) : Option (Str × D) := if fok f then cErr f ls else some ("BadLot", tD f)
def unl (a b c d : List Nat) : List Nat := join (cut a d) (cut b c)
def setA (a b c d : List Nat) : List Nat := off (join a c) (unl a b c d)
def setB (a b c d : List Nat) : List Nat := off (join b d) (unl a b c d)
namespace S
def check_fields : DSp := fun cs ds P => ∃ f, cs = [] ∧ ds = [tD f] ∧ sm f ∧ match mErr f [] with
  | none => P (.ok (.frz (tD f))) []
  | some (c, x) => P (.ex c x) []
def case_on : DSp := fun cs ds P => ∃ f l, cs = [] ∧ ds = [tD f, cD l] ∧ sm f ∧ smC l ∧ P (.ok (.frz (.bl (goodC f l)))) []
def check_case : DSp := fun cs ds P => ∃ f l, cs = [] ∧ ds = [tD f, cD l] ∧ sm f ∧ smC l ∧ match mErr f [l] with
  | none => P (.ok (.frz (cD l))) []
  | some (c, x) => P (.ex c x) []
def unlike_fields : DSp := fun cs ds P => ∃ a b c d, cs = [] ∧ ds = [cD [a, b], cD [c, d]] ∧ sm a ∧ sm b ∧ P (.ok (.frz (tD (unl a b c d)))) []
def settled : DSp := fun cs ds P => ∃ a b c d, cs = [] ∧ ds = [cD [a, b], cD [c, d]] ∧ sm a ∧ sm b ∧ P (.ok (.frz (cD [setA a b c d, setB a b c d]))) []
def lot_place : DSp := fun cs ds P => ∃ a : List Nat, cs = [] ∧ ds = [tD a] ∧ sm a ∧ P (.ok (.frz (.tup [.int a.length, tD a]))) []
def case_place : DSp := fun cs ds P => ∃ a b : List Nat, cs = [] ∧ ds = [cD [a, b]] ∧ sm a ∧ sm b ∧ P (.ok (.frz (.tup [.tup [.int a.length, tD a], .tup [.int b.length, tD b]]))) []
def _law_case_key : DSp := fun cs ds P => ∃ a b : List Nat, cs = [] ∧ ds = [cD [a, b]] ∧ sm a ∧ sm b ∧ P (.ok (.frz (.tup [.int a.length, tD a, .int b.length, tD b]))) []
end S
def r_check_fields : DS := (dSeq (dIf (dOr (dNot (dFn S.lot_on (daCons (dC (.str "abcdef")) (daCons (dVar 0) daNil)))) (dOp dEq (dVar 0) (dC (.str "")))) (dRaise "BadLot" (daCons (dVar 0) daNil)) dPass) (dRetV 0))
def N_check_fields : List Str := ["fields"]
def r_case_on : DS := (dSeq (dIf (dOr (dNot (dIsi [.tup] (dVarV 1))) (dOp dNe (dCall dLen (daCons (dVarV 1) daNil)) (dC (.int 2)))) (dRet (dC (.bl false))) dPass) (dSeq (dAsg (dVar 1) (gT (gsCons (gN 2) (gsCons (gN 3) gsNil)))) (dRet (dAnd (dFn S.lot_on (daCons (dVar 0) (daCons (dVar 2) daNil))) (dAnd (dFn S.lot_on (daCons (dVar 0) (daCons (dVar 3) daNil))) (dOp dEq (dFn S.shared (daCons (dVar 2) (daCons (dVar 3) daNil))) (dC (.str ""))))))))
def N_case_on : List Str := ["fields", "case", "ahead", "behind"]
def r_check_case : DS := (dSeq (dDrop (dFn S.check_fields (daCons (dVar 0) daNil))) (dSeq (dIf (dNot (dFn S.case_on (daCons (dVar 0) (daCons (dVar 1) daNil)))) (dRaise "BadCase" (daCons (dVar 1) daNil)) dPass) (dRetV 1)))
def N_check_case : List Str := ["fields", "case"]
def r_unlike_fields : DS := (dRet (dFn S.joined (daCons (dFn S.shared (daCons (dIxV 0 dIx (dC (.int 0))) (daCons (dIxV 1 dIx (dC (.int 1))) daNil))) (daCons (dFn S.shared (daCons (dIxV 0 dIx (dC (.int 1))) (daCons (dIxV 1 dIx (dC (.int 0))) daNil))) daNil))))
def N_unlike_fields : List Str := ["one", "two"]
def r_settled : DS := (dSeq (dSet 2 (dFn S.unlike_fields (daCons (dVar 0) (daCons (dVar 1) daNil)))) (dRet (dTup (daCons (dFn S.without (daCons (dFn S.joined (daCons (dIxV 0 dIx (dC (.int 0))) (daCons (dIxV 1 dIx (dC (.int 0))) daNil))) (daCons (dVar 2) daNil))) (daCons (dFn S.without (daCons (dFn S.joined (daCons (dIxV 0 dIx (dC (.int 1))) (daCons (dIxV 1 dIx (dC (.int 1))) daNil))) (daCons (dVar 2) daNil))) daNil)))))
def N_settled : List Str := ["one", "two", "free"]
def r_lot_place : DS := (dRet (dTup (daCons (dCall dLen (daCons (dVarV 0) daNil)) (daCons (dVar 0) daNil))))
def N_lot_place : List Str := ["lot"]
def r_case_place : DS := (dRet (dTup (daCons (dFn S.lot_place (daCons (dIxV 0 dIx (dC (.int 0))) daNil)) (daCons (dFn S.lot_place (daCons (dIxV 0 dIx (dC (.int 1))) daNil)) daNil))))
def N_case_place : List Str := ["case"]
def r__law_case_key : DS := (dRet (dTup (daCons (dCall dLen (daCons (dIxV 0 dIx (dC (.int 0))) daNil)) (daCons (dIxV 0 dIx (dC (.int 0))) (daCons (dCall dLen (daCons (dIxV 0 dIx (dC (.int 1))) daNil)) (daCons (dIxV 0 dIx (dC (.int 1))) daNil))))))
def N__law_case_key : List Str := ["case"]
theorem T_nil {a : List Nat} : (T a = Str.ofString "") = (a = []) := by
  rw [empty_T]
  exact propext T_inj
theorem p_check_fields : ∀ cs ds P, S.check_fields cs ds P → cs.length = 0 ∧ cs.length + ds.length = 1 ∧ r_check_fields (startD N_check_fields cs ds) (endP 0 P) := by
  rintro _ _ P ⟨f, rfl, rfl, h1, hp⟩
  refine ⟨rfl, rfl, ?_⟩
  simp [r_check_fields, N_check_fields, startD, endP, outs, dRet, dRetV, dsThen, dM1, dThen, daThen, dC, dLc, dItems, dVar, dVarV, still, D.items, D.isTxt, wipeD, SVd_f, SVd_o, SVd_b, SVm_f, SVm_o, SVm_b, SVp_f, SVp_o, SVp_b, dOp, dIn_s, dNotin_s, dEq_s, dEq_i, dEq_b, dNe_s, dNe_i, T_len, T_inj, dTT, lcTurn, gN, nbor, onB_bl, nborL, backD, T_subIn, dCall, daCons, daNil, dTup, dLst, dSeq, dIf, dPass, dSet, dDrop, dAsg, dOr, dAnd, dNot, dIfE, dIxV, dFn, dFnB, gT, gsCons, gsNil, S.lot_on, FL_T, dRaise, T_nil]
  refine ⟨_, _, ⟨rfl, rfl⟩, by decide, h1, ?_⟩
  unfold mErr fok at hp
  cases h : lotOn FL f <;> by_cases h2 : f = [] <;> simp [h, h2, cErr] at hp ⊢ <;> exact hp
theorem p_case_on : ∀ cs ds P, S.case_on cs ds P → cs.length = 0 ∧ cs.length + ds.length = 2 ∧ r_case_on (startD N_case_on cs ds) (endP 0 P) := by
  rintro _ _ P ⟨f, l, rfl, rfl, h1, h2, hp⟩
  refine ⟨rfl, rfl, ?_⟩
  simp [r_case_on, N_case_on, startD, endP, outs, dRet, dRetV, dsThen, dM1, dThen, daThen, dC, dLc, dItems, dVar, dVarV, still, D.items, D.isTxt, wipeD, SVd_f, SVd_o, SVd_b, SVm_f, SVm_o, SVm_b, SVp_f, SVp_o, SVp_b, dOp, dIn_s, dNotin_s, dEq_s, dEq_i, dEq_b, dNe_s, dNe_i, T_len, T_inj, dTT, lcTurn, gN, nbor, onB_bl, nborL, backD, T_subIn, dCall, daCons, daNil, dTup, dLst, dSeq, dIf, dPass, dSet, dDrop, dAsg, dOr, dAnd, dNot, dIfE, dIxV, dFn, dFnB, gT, gsCons, gsNil, S.lot_on, S.shared, FL_T, dIsi, D.isaL, D.isa, dLen, T_nil]
  match l, h2, hp with
  | [], _, hp => simpa [goodC] using hp
  | [_], _, hp => simpa [goodC] using hp
  | _ :: _ :: _ :: r, _, hp =>
    rw [if_neg (by simp; omega)]
    simpa [goodC] using hp
  | [a, b], ⟨_, h2⟩, hp =>
    have ha := h2 a (by simp)
    have hb := h2 b (by simp)
    simp only [goodC] at hp
    simp
    refine ⟨_, _, ⟨rfl, rfl⟩, h1, ha, ?_⟩
    cases e1 : lotOn f a with
    | false => simpa [e1] using hp
    | true =>
      simp
      refine ⟨_, _, ⟨rfl, rfl⟩, h1, hb, ?_⟩
      cases e2 : lotOn f b with
      | false => simpa [e1, e2] using hp
      | true =>
        simp
        refine ⟨_, _, ⟨rfl, rfl⟩, ha, ?_⟩
        simpa [e1, e2] using hp
theorem p_check_case : ∀ cs ds P, S.check_case cs ds P → cs.length = 0 ∧ cs.length + ds.length = 2 ∧ r_check_case (startD N_check_case cs ds) (endP 0 P) := by
  rintro _ _ P ⟨f, l, rfl, rfl, h1, h2, hp⟩
  refine ⟨rfl, rfl, ?_⟩
  simp [r_check_case, N_check_case, startD, endP, outs, dRet, dRetV, dsThen, dM1, dThen, daThen, dC, dLc, dItems, dVar, dVarV, still, D.items, D.isTxt, wipeD, SVd_f, SVd_o, SVd_b, SVm_f, SVm_o, SVm_b, SVp_f, SVp_o, SVp_b, dOp, dIn_s, dNotin_s, dEq_s, dEq_i, dEq_b, dNe_s, dNe_i, T_len, T_inj, dTT, lcTurn, gN, nbor, onB_bl, nborL, backD, T_subIn, dCall, daCons, daNil, dTup, dLst, dSeq, dIf, dPass, dSet, dDrop, dAsg, dOr, dAnd, dNot, dIfE, dIxV, dFn, dFnB, gT, gsCons, gsNil, S.check_fields, S.case_on, dRaise]
  refine ⟨h1, ?_⟩
  unfold mErr at hp ⊢
  cases e : fok f with
  | false => simpa [e, startD, endP, outs, dRet, dRetV, dsThen, dM1, dThen, daThen, dC, dLc, dItems, dVar, dVarV, still, D.items, D.isTxt, wipeD, SVd_f, SVd_o, SVd_b, SVm_f, SVm_o, SVm_b, SVp_f, SVp_o, SVp_b, dOp, dIn_s, dNotin_s, dEq_s, dEq_i, dEq_b, dNe_s, dNe_i, T_len, T_inj, dTT, lcTurn, gN, nbor, onB_bl, nborL, backD, T_subIn, dCall, daCons, daNil, dTup, dLst, dSeq, dIf, dPass, dSet, dDrop, dAsg, dOr, dAnd, dNot, dIfE, dIxV, dFn, dFnB, gT, gsCons, gsNil] using hp
  | true =>
    simp [e, cErr] at hp ⊢
    refine ⟨_, _, ⟨rfl, rfl⟩, h1, ⟨h2.1, h2.2⟩, ?_⟩
    cases e2 : goodC f l <;> simpa [e2] using hp
theorem p_unlike_fields : ∀ cs ds P, S.unlike_fields cs ds P → cs.length = 0 ∧ cs.length + ds.length = 2 ∧ r_unlike_fields (startD N_unlike_fields cs ds) (endP 0 P) := by
  rintro _ _ P ⟨a, b, c, d, rfl, rfl, h1, h2, hp⟩
  refine ⟨rfl, rfl, ?_⟩
  simp [r_unlike_fields, N_unlike_fields, startD, endP, outs, dRet, dRetV, dsThen, dM1, dThen, daThen, dC, dLc, dItems, dVar, dVarV, still, D.items, D.isTxt, wipeD, SVd_f, SVd_o, SVd_b, SVm_f, SVm_o, SVm_b, SVp_f, SVp_o, SVp_b, dOp, dIn_s, dNotin_s, dEq_s, dEq_i, dEq_b, dNe_s, dNe_i, T_len, T_inj, dTT, lcTurn, gN, nbor, onB_bl, nborL, backD, T_subIn, dCall, daCons, daNil, dTup, dLst, dSeq, dIf, dPass, dSet, dDrop, dAsg, dOr, dAnd, dNot, dIfE, dIxV, dFn, dFnB, gT, gsCons, gsNil, S.joined, S.shared, dIx, atI, ixN]
  exact ⟨_, _, ⟨rfl, rfl⟩, h1, _, _, ⟨rfl, rfl⟩, h2, _, _, ⟨rfl, rfl⟩, hp⟩
theorem p_settled : ∀ cs ds P, S.settled cs ds P → cs.length = 0 ∧ cs.length + ds.length = 2 ∧ r_settled (startD N_settled cs ds) (endP 0 P) := by
  rintro _ _ P ⟨a, b, c, d, rfl, rfl, h1, h2, hp⟩
  refine ⟨rfl, rfl, ?_⟩
  simp [r_settled, N_settled, startD, endP, outs, dRet, dRetV, dsThen, dM1, dThen, daThen, dC, dLc, dItems, dVar, dVarV, still, D.items, D.isTxt, wipeD, SVd_f, SVd_o, SVd_b, SVm_f, SVm_o, SVm_b, SVp_f, SVp_o, SVp_b, dOp, dIn_s, dNotin_s, dEq_s, dEq_i, dEq_b, dNe_s, dNe_i, T_len, T_inj, dTT, lcTurn, gN, nbor, onB_bl, nborL, backD, T_subIn, dCall, daCons, daNil, dTup, dLst, dSeq, dIf, dPass, dSet, dDrop, dAsg, dOr, dAnd, dNot, dIfE, dIxV, dFn, dFnB, gT, gsCons, gsNil, S.joined, S.without, S.unlike_fields, dIx, atI, ixN]
  refine ⟨_, _, _, _, ⟨⟨rfl, rfl⟩, rfl, rfl⟩, h1, h2, _, _, ⟨rfl, rfl⟩, _, _, ⟨rfl, rfl⟩, ?_, _, _, ⟨rfl, rfl⟩, _, _, ⟨rfl, rfl⟩, ?_, by unfold sizeLine; omega, hp⟩
  · exact Nat.le_trans len_join (by decide)
  · exact Nat.le_trans len_join (by decide)
theorem p_lot_place : ∀ cs ds P, S.lot_place cs ds P → cs.length = 0 ∧ cs.length + ds.length = 1 ∧ r_lot_place (startD N_lot_place cs ds) (endP 0 P) := by
  rintro _ _ P ⟨a, rfl, rfl, h1, hp⟩
  refine ⟨rfl, rfl, ?_⟩
  simp [r_lot_place, N_lot_place, startD, endP, outs, dRet, dRetV, dsThen, dM1, dThen, daThen, dC, dLc, dItems, dVar, dVarV, still, D.items, D.isTxt, wipeD, SVd_f, SVd_o, SVd_b, SVm_f, SVm_o, SVm_b, SVp_f, SVp_o, SVp_b, dOp, dIn_s, dNotin_s, dEq_s, dEq_i, dEq_b, dNe_s, dNe_i, T_len, T_inj, dTT, lcTurn, gN, nbor, onB_bl, nborL, backD, T_subIn, dCall, daCons, daNil, dTup, dLst, dSeq, dIf, dPass, dSet, dDrop, dAsg, dOr, dAnd, dNot, dIfE, dIxV, dFn, dFnB, gT, gsCons, gsNil, dLen]
  exact ⟨by unfold sizeLine; omega, by unfold sizeLine; omega, hp⟩
theorem p_case_place : ∀ cs ds P, S.case_place cs ds P → cs.length = 0 ∧ cs.length + ds.length = 1 ∧ r_case_place (startD N_case_place cs ds) (endP 0 P) := by
  rintro _ _ P ⟨a, b, rfl, rfl, h1, h2, hp⟩
  refine ⟨rfl, rfl, ?_⟩
  simp [r_case_place, N_case_place, startD, endP, outs, dRet, dRetV, dsThen, dM1, dThen, daThen, dC, dLc, dItems, dVar, dVarV, still, D.items, D.isTxt, wipeD, SVd_f, SVd_o, SVd_b, SVm_f, SVm_o, SVm_b, SVp_f, SVp_o, SVp_b, dOp, dIn_s, dNotin_s, dEq_s, dEq_i, dEq_b, dNe_s, dNe_i, T_len, T_inj, dTT, lcTurn, gN, nbor, onB_bl, nborL, backD, T_subIn, dCall, daCons, daNil, dTup, dLst, dSeq, dIf, dPass, dSet, dDrop, dAsg, dOr, dAnd, dNot, dIfE, dIxV, dFn, dFnB, gT, gsCons, gsNil, dLen, S.lot_place, dIx, atI, ixN]
  exact ⟨h1, h2, by unfold sizeLine; omega, hp⟩
theorem p__law_case_key : ∀ cs ds P, S._law_case_key cs ds P → cs.length = 0 ∧ cs.length + ds.length = 1 ∧ r__law_case_key (startD N__law_case_key cs ds) (endP 0 P) := by
  rintro _ _ P ⟨a, b, rfl, rfl, h1, h2, hp⟩
  refine ⟨rfl, rfl, ?_⟩
  simp [r__law_case_key, N__law_case_key, startD, endP, outs, dRet, dRetV, dsThen, dM1, dThen, daThen, dC, dLc, dItems, dVar, dVarV, still, D.items, D.isTxt, wipeD, SVd_f, SVd_o, SVd_b, SVm_f, SVm_o, SVm_b, SVp_f, SVp_o, SVp_b, dOp, dIn_s, dNotin_s, dEq_s, dEq_i, dEq_b, dNe_s, dNe_i, T_len, T_inj, dTT, lcTurn, gN, nbor, onB_bl, nborL, backD, T_subIn, dCall, daCons, daNil, dTup, dLst, dSeq, dIf, dPass, dSet, dDrop, dAsg, dOr, dAnd, dNot, dIfE, dIxV, dFn, dFnB, gT, gsCons, gsNil, dLen, dIx, atI, ixN]
  exact ⟨by unfold sizeLine; omega, by unfold sizeLine; omega, by unfold sizeLine; omega, hp⟩
end K01

set_option Elab.async false
set_option linter.all false
set_option maxRecDepth 100000
set_option maxHeartbeats 4000000
namespace K01
open PySem PySem.Spec L2 Ow
set_option autoImplicit false
/-- does the third case meet the two -/
def meetsC : Cs → Cs → Cs → Bool
  | [a, b], [c, d], [g, h] => decide (off g (unl a b c d) = setA a b c d) && decide (off h (unl a b c d) = setB a b c d)
  | _, _, _ => false
namespace S
def is_meeting : DSp := fun cs ds P => ∃ f l1 l2 l3, cs = [] ∧ ds = [tD f, cD l1, cD l2, cD l3] ∧ sm f ∧ smC l1 ∧ smC l2 ∧ smC l3 ∧ match mErr f [l1, l2, l3] with
  | none => P (.ok (.frz (.bl (meetsC l1 l2 l3)))) []
  | some (c, x) => P (.ex c x) []
end S
def r_is_meeting : DS := (dSeq (dDrop (dFn S.check_case (daCons (dVar 0) (daCons (dVar 1) daNil)))) (dSeq (dDrop (dFn S.check_case (daCons (dVar 0) (daCons (dVar 2) daNil)))) (dSeq (dDrop (dFn S.check_case (daCons (dVar 0) (daCons (dVar 3) daNil)))) (dSeq (dSet 4 (dFn S.unlike_fields (daCons (dVar 1) (daCons (dVar 2) daNil)))) (dRet (dOp dEq (dTup (daCons (dFn S.without (daCons (dIxV 3 dIx (dC (.int 0))) (daCons (dVar 4) daNil))) (daCons (dFn S.without (daCons (dIxV 3 dIx (dC (.int 1))) (daCons (dVar 4) daNil))) daNil))) (dFn S.settled (daCons (dVar 1) (daCons (dVar 2) daNil)))))))))
def N_is_meeting : List Str := ["fields", "one", "two", "third", "free"]
theorem good_two {f : List Nat} {l : Cs} (h : goodC f l = true) : ∃ a b, l = [a, b] := by
  match l, h with
  | [a, b], _ => exact ⟨a, b, rfl⟩
  | [], h => simp [goodC] at h
  | [_], h => simp [goodC] at h
  | _ :: _ :: _ :: _, h => simp [goodC] at h
theorem eqv_tD {a b : List Nat} : PyData.eqv (tD a).py (tD b).py = decide (a = b) := by
  simp only [D.py, PyData.eqv]
  by_cases h : a = b
  · simp [h]
  · simp [h]
/-- of the six fields -/
abbrev six (a : List Nat) : Prop := ∀ c ∈ a, c ∈ FL
theorem six_ok {a : List Nat} (h : six a) : PyData.strOk (T a) = true := by
  simp only [PyData.strOk, T]
  simp
  intro c hc
  have z := h c hc
  simp at z
  omega
theorem lot_sub {f a : List Nat} (h : lotOn f a = true) : ∀ c ∈ a, c ∈ f := by
  unfold lotOn at h
  simp at h
  intro c hc
  rw [← h.2] at hc
  exact (mem_cut.mp hc).1
theorem fok_six {f : List Nat} (h : fok f = true) : six f := by
  unfold fok at h
  simp at h
  exact lot_sub h.1
theorem good_sub {f a b : List Nat} (h : goodC f [a, b] = true) : (∀ c ∈ a, c ∈ f) ∧ ∀ c ∈ b, c ∈ f := by
  simp [goodC] at h
  exact ⟨lot_sub h.1.1, lot_sub h.1.2⟩
theorem dEq_c2 {a b c d : List Nat} {P : SV → Prop} (ha : six a) (hb : six b) (hc : six c) (hd : six d) : dEq (.tup [.str (T a), .str (T b)]) (.tup [.str (T c), .str (T d)]) P = P (.frz (.bl (decide (a = c) && decide (b = d)))) := by
  unfold dEq
  have e : PyData.eqv (D.tup [tD a, tD b]).py (D.tup [tD c, tD d]).py = (decide (a = c) && decide (b = d)) := by
    rw [← eqv_tD (a := a), ← eqv_tD (a := b)]
    simp [D.py, pyL, PyData.eqv, PyData.eqvAll]
  rw [e]
  have z : ∀ a b : List Nat, six a → six b → (PyData.tuple (pyL [D.str (T a), D.str (T b)])).canLay0 = true ∧ decide ((PyData.tuple (pyL [D.str (T a), D.str (T b)])).depth ≤ 64) = true := by
    intro a b ha hb
    simp [six_ok ha, six_ok hb, pyL, D.py, PyData.canLay0, PyData.depth, PyData.canLayAll0, PyData.depthAll]
  simp [D.scal, D.pur, purL, D.py, SeqAt.shaped]
  have z1 := z a b ha hb
  have z2 := z c d hc hd
  simp at z1 z2
  simp [z1, z2]
theorem p_is_meeting : ∀ cs ds P, S.is_meeting cs ds P → cs.length = 0 ∧ cs.length + ds.length = 4 ∧ r_is_meeting (startD N_is_meeting cs ds) (endP 0 P) := by
  rintro _ _ P ⟨f, l1, l2, l3, rfl, rfl, h0, h1, h2, h3, hp⟩
  refine ⟨rfl, rfl, ?_⟩
  simp [r_is_meeting, N_is_meeting, startD, endP, outs, dRet, dRetV, dsThen, dM1, dThen, daThen, dC, dLc, dItems, dVar, dVarV, still, D.items, D.isTxt, wipeD, SVd_f, SVd_o, SVd_b, SVm_f, SVm_o, SVm_b, SVp_f, SVp_o, SVp_b, dOp, dIn_s, dNotin_s, dEq_s, dEq_i, dEq_b, dNe_s, dNe_i, T_len, T_inj, dTT, lcTurn, gN, nbor, onB_bl, nborL, backD, T_subIn, dCall, daCons, daNil, dTup, dLst, dSeq, dIf, dPass, dSet, dDrop, dAsg, dOr, dAnd, dNot, dIfE, dIxV, dFn, dFnB, gT, gsCons, gsNil, S.check_case, dIx, atI, ixN]
  unfold mErr at hp ⊢
  refine ⟨f, l1, ⟨rfl, rfl⟩, h0, h1, ?_⟩
  cases e : fok f with
  | false => simpa [e, startD, endP, outs, dRet, dRetV, dsThen, dM1, dThen, daThen, dC, dLc, dItems, dVar, dVarV, still, D.items, D.isTxt, wipeD, SVd_f, SVd_o, SVd_b, SVm_f, SVm_o, SVm_b, SVp_f, SVp_o, SVp_b, dOp, dIn_s, dNotin_s, dEq_s, dEq_i, dEq_b, dNe_s, dNe_i, T_len, T_inj, dTT, lcTurn, gN, nbor, onB_bl, nborL, backD, T_subIn, dCall, daCons, daNil, dTup, dLst, dSeq, dIf, dPass, dSet, dDrop, dAsg, dOr, dAnd, dNot, dIfE, dIxV, dFn, dFnB, gT, gsCons, gsNil] using hp
  | true =>
    simp [e, cErr] at hp ⊢
    cases e1 : goodC f l1 with
    | false => simpa [e1] using hp
    | true =>
      simp [e1] at hp ⊢
      refine ⟨_, _, ⟨rfl, rfl⟩, h0, h2, ?_⟩
      cases e2 : goodC f l2 with
      | false => simpa [e, e2] using hp
      | true =>
        simp [e, e2] at hp ⊢
        refine ⟨_, _, ⟨rfl, rfl⟩, h0, h3, ?_⟩
        cases e3 : goodC f l3 with
        | false => simpa [e, e3] using hp
        | true =>
          simp [e, e3] at hp ⊢
          obtain ⟨a, b, rfl⟩ := good_two e1
          obtain ⟨c, d, rfl⟩ := good_two e2
          obtain ⟨g, h, rfl⟩ := good_two e3
          simp [S.unlike_fields, S.settled, S.without]
          have k1 := h1.2 a (by simp)
          have k2 := h1.2 b (by simp)
          refine ⟨_, _, _, _, ⟨⟨rfl, rfl⟩, rfl, rfl⟩, k1, k2, _, _, ⟨rfl, rfl⟩, h3.2 g (by simp), _, _, ⟨rfl, rfl⟩, h3.2 h (by simp), by unfold sizeLine; omega, _, _, _, _, ⟨⟨rfl, rfl⟩, rfl, rfl⟩, k1, k2, ?_⟩
          have sF := fok_six e
          have sJ : ∀ x y : List Nat, six (join x y) := fun x y c hc => (mem_join.mp hc).1
          exact Eq.mpr (dEq_c2 (fun c hc => sF c ((good_sub e3).1 c (mem_off.mp hc).1)) (fun c hc => sF c ((good_sub e3).2 c (mem_off.mp hc).1)) (fun c hc => sJ _ _ c (mem_off.mp hc).1) (fun c hc => sJ _ _ c (mem_off.mp hc).1)) hp
end K01

set_option Elab.async false
set_option linter.all false
set_option maxRecDepth 100000
set_option maxHeartbeats 4000000
namespace K01
open PySem PySem.Spec L2 Ow
set_option autoImplicit false
def partsU (l : List Nat) : List (List Nat) := l.foldl (fun acc c => acc ++ acc.map (· ++ [c])) [[]]
def pairsU (l : List Nat) : List (List Nat × List Nat) := (partsU l).flatMap fun x => (partsU (off l x)).map fun y => (x, y)
abbrev pD (p : List Nat × List Nat) : D := cD [p.1, p.2]
namespace S
def parts_of : DSp := fun cs ds P => ∃ l : List Nat, cs = [] ∧ ds = [tD l] ∧ l.length ≤ 6 ∧ ∀ L : List (List Nat), L.Perm (partsU l) → P (.ok (.own (.lst (L.map tD)))) []
def pairs_in : DSp := fun cs ds P => ∃ l : List Nat, cs = [] ∧ ds = [tD l] ∧ l.length ≤ 6 ∧ ∀ L : List (List Nat × List Nat), L.Perm (pairsU l) → P (.ok (.own (.lst (L.map pD)))) []
end S
def r_parts_of : DS := (dSeq (dSet 1 (dLst (daCons (dC (.str "")) daNil))) (dSeq (dFor (dItems (dVar 0)) (gN 2) (dSet 1 (dOp dAdd (dVar 1) (dLc (dItems (dVar 1)) [3] (gN 3) none (dOp dAdd (dVar 3) (dVarV 2)))))) (dRet (dCall (oSortK S.lot_place) (daCons (dVarV 1) daNil)))))
def N_parts_of : List Str := ["lot", "lots", "field", "part"]
def r_pairs_in : DS := (dRet (dLc2 (dItems (dFn S.parts_of (daCons (dVar 0) daNil))) [1, 2] [2] (gN 1) none (dItems (dFn S.parts_of (daCons (dFn S.without (daCons (dVar 0) (daCons (dVar 1) daNil))) daNil))) (gN 2) none (dTup (daCons (dVar 1) (daCons (dVar 2) daNil)))))
def N_pairs_in : List Str := ["lot", "ahead", "behind"]
/-- the keys -/
def lpK : D → D
  | .str z => .tup [.int z.length, .str z]
  | d => d
theorem lpK_T (a : List Nat) : lpK (tD a) = .tup [.int a.length, tD a] := by
  simp [lpK, T_len]
theorem parts_fold (l : List Nat) : ∀ (a : List (List Nat)) (o : Option Nat), (l.foldl (fun (a : List (List Nat) × Option Nat) c => (a.1 ++ a.1.map (· ++ [c]), some c)) (a, o)).1 = l.foldl (fun acc c => acc ++ acc.map (· ++ [c])) a := by
  induction l with
  | nil => intro a o; rfl
  | cons c l ih => intro a o; exact ih _ _
theorem keyOk_lp {L : List (List Nat)} (h : L.length ≤ 1000000) : KeyOk (L.map tD) lpK := by
  refine keyOk_of (fun a => ?_) (fun a b => ?_) (fun a => ?_) (by unfold sizeLine; omega) fun a => ?_
  · simp [lpK, D.pur, purL]
  · simp [lpK, D.py, pyL, PySem.W.alike, PySem.W.alikeAll]
  · simp [lpK, D.py, pyL]
  · simp [lpK, D.py, pyL, PyData.depth, PyData.depthAll]
theorem p_parts_of : ∀ cs ds P, S.parts_of cs ds P → cs.length = 0 ∧ cs.length + ds.length = 1 ∧ r_parts_of (startD N_parts_of cs ds) (endP 0 P) := by
  rintro _ _ P ⟨l, rfl, rfl, h1, hp⟩
  refine ⟨rfl, rfl, ?_⟩
  simp [r_parts_of, N_parts_of, startD, endP, outs, dRet, dRetV, dsThen, dM1, dThen, daThen, dC, dLc, dItems, dVar, dVarV, still, D.items, D.isTxt, wipeD, SVd_f, SVd_o, SVd_b, SVm_f, SVm_o, SVm_b, SVp_f, SVp_o, SVp_b, dOp, dIn_s, dNotin_s, dEq_s, dEq_i, dEq_b, dNe_s, dNe_i, T_len, T_inj, dTT, lcTurn, gN, nbor, onB_bl, nborL, backD, T_subIn, dCall, daCons, daNil, dTup, dLst, dSeq, dIf, dPass, dSet, dDrop, dAsg, dOr, dAnd, dNot, dIfE, dIxV, dFn, dFnB, gT, gsCons, gsNil, dFor]
  refine ⟨by unfold sizeLine; omega, ?_⟩
  rw [T_signs]
  refine forMap (α := List (List Nat) × Option Nat) (fun a => [some (.frz (tD l)), some (.own (.lst (a.1.map tD))), a.2.map (fun c => .frz (sgn c)), none]) (fun a c => (a.1 ++ a.1.map (· ++ [c]), some c)) (fun r a => a.1.length * 2 ^ r.length ≤ 64 ∧ ∀ x ∈ a.1, x.length + r.length ≤ 6)
    (fun c r a hi => ?_) l ([[]], none) ?_ (fun hi => ?_)
  · obtain ⟨acc, o⟩ := a
    simp [Nat.pow_succ] at hi ⊢
    have hpos : 0 < 2 ^ r.length := Nat.pow_pos (by decide)
    have hacc : acc.length ≤ 64 := Nat.le_trans (Nat.le_mul_of_pos_right _ (by omega)) hi.1
    refine ⟨⟨?_, ?_⟩, fun K hk => ?_⟩
    · have e : (acc.length + acc.length) * 2 ^ r.length = acc.length * (2 ^ r.length * 2) := by
        rw [← Nat.two_mul, Nat.mul_comm (2 ^ r.length) 2, ← Nat.mul_assoc, Nat.mul_comm acc.length 2]
      rw [e]
      exact hi.1
    · rintro x (hx | ⟨y, hy, rfl⟩)
      · have := hi.2 x hx
        omega
      · have := hi.2 y hy
        simp
        omega
    cases o <;> (
      simp [startD, endP, outs, dRet, dRetV, dsThen, dM1, dThen, daThen, dC, dLc, dItems, dVar, dVarV, still, D.items, D.isTxt, wipeD, SVd_f, SVd_o, SVd_b, SVm_f, SVm_o, SVm_b, SVp_f, SVp_o, SVp_b, dOp, dIn_s, dNotin_s, dEq_s, dEq_i, dEq_b, dNe_s, dNe_i, T_len, T_inj, dTT, lcTurn, gN, nbor, onB_bl, nborL, backD, T_subIn, dCall, daCons, daNil, dTup, dLst, dSeq, dIf, dPass, dSet, dDrop, dAsg, dOr, dAnd, dNot, dIfE, dIxV, dFn, dFnB, gT, gsCons, gsNil]
      refine lcAll (val := fun d => tD (d ++ [c])) acc [] _ (fun d hd K hk => ?_) (by unfold sizeLine; simp; omega) ?_
      · have hd := hi.2 d hd
        simp [startD, endP, outs, dRet, dRetV, dsThen, dM1, dThen, daThen, dC, dLc, dItems, dVar, dVarV, still, D.items, D.isTxt, wipeD, SVd_f, SVd_o, SVd_b, SVm_f, SVm_o, SVm_b, SVp_f, SVp_o, SVp_b, dOp, dIn_s, dNotin_s, dEq_s, dEq_i, dEq_b, dNe_s, dNe_i, T_len, T_inj, dTT, lcTurn, gN, nbor, onB_bl, nborL, backD, T_subIn, dCall, daCons, daNil, dTup, dLst, dSeq, dIf, dPass, dSet, dDrop, dAsg, dOr, dAnd, dNot, dIfE, dIxV, dFn, dFnB, gT, gsCons, gsNil, dAdd, T_add] at hk ⊢
        exact ⟨by unfold sizeLine; omega, hk⟩
      · simp [startD, endP, outs, dRet, dRetV, dsThen, dM1, dThen, daThen, dC, dLc, dItems, dVar, dVarV, still, D.items, D.isTxt, wipeD, SVd_f, SVd_o, SVd_b, SVm_f, SVm_o, SVm_b, SVp_f, SVp_o, SVp_b, dOp, dIn_s, dNotin_s, dEq_s, dEq_i, dEq_b, dNe_s, dNe_i, T_len, T_inj, dTT, lcTurn, gN, nbor, onB_bl, nborL, backD, T_subIn, dCall, daCons, daNil, dTup, dLst, dSeq, dIf, dPass, dSet, dDrop, dAsg, dOr, dAnd, dNot, dIfE, dIxV, dFn, dFnB, gT, gsCons, gsNil, dAdd] at hk ⊢
        exact ⟨by unfold sizeLine; omega, hk⟩)
  · simp
    exact ⟨Nat.le_trans (Nat.pow_le_pow_right (by decide) h1) (by decide), h1⟩
  · have e := parts_fold l [[]] none
    simp only [e] at hi ⊢
    have h64 : (partsU l).length ≤ 64 := by simpa [partsU] using hi.1
    obtain ⟨L, pm, es, _⟩ := srt_map (enc := tD) (key := lpK) (partsU l)
    simp [oSortK, keyAns, startD, endP, outs, dRet, dRetV, dsThen, dM1, dThen, daThen, dC, dLc, dItems, dVar, dVarV, still, D.items, D.isTxt, wipeD, SVd_f, SVd_o, SVd_b, SVm_f, SVm_o, SVm_b, SVp_f, SVp_o, SVp_b, dOp, dIn_s, dNotin_s, dEq_s, dEq_i, dEq_b, dNe_s, dNe_i, T_len, T_inj, dTT, lcTurn, gN, nbor, onB_bl, nborL, backD, T_subIn, dCall, daCons, daNil, dTup, dLst, dSeq, dIf, dPass, dSet, dDrop, dAsg, dOr, dAnd, dNot, dIfE, dIxV, dFn, dFnB, gT, gsCons, gsNil]
    refine ⟨lpK, fun a ha P hP => ⟨a, rfl, rfl, ?_, by rw [← lpK_T]; exact hP⟩, keyOk_lp (by show (partsU l).length ≤ _; omega), ?_⟩
    · have := hi.2 a ha
      show a.length ≤ _
      simp at this
      omega
    · have z := hp L pm
      rw [← es] at z
      exact z
theorem snoc_ind {P : List Nat → Prop} (h0 : P []) (h1 : ∀ l c, P l → P (l ++ [c])) : ∀ l, P l := fun l => by
  have go : ∀ r : List Nat, P r.reverse := by
    intro r
    induction r with
    | nil => exact h0
    | cons c r ih =>
      rw [List.reverse_cons]
      exact h1 _ _ ih
  have z := go l.reverse
  rwa [List.reverse_reverse] at z
theorem partsU_snoc (l : List Nat) (c : Nat) : partsU (l ++ [c]) = partsU l ++ (partsU l).map (· ++ [c]) := by
  simp [partsU, List.foldl_append]
theorem partsU_len : ∀ l, (partsU l).length = 2 ^ l.length := by
  refine snoc_ind rfl fun l c ih => ?_
  rw [partsU_snoc, List.length_append, List.length_map, ih, List.length_append, List.length_singleton, Nat.pow_succ]
  omega
theorem partsU_64 {l : List Nat} (h : l.length ≤ 6) : (partsU l).length ≤ 64 := by
  rw [partsU_len]
  exact Nat.le_trans (Nat.pow_le_pow_right (by decide) h) (by decide)
theorem p_pairs_in : ∀ cs ds P, S.pairs_in cs ds P → cs.length = 0 ∧ cs.length + ds.length = 1 ∧ r_pairs_in (startD N_pairs_in cs ds) (endP 0 P) := by
  rintro _ _ P ⟨l, rfl, rfl, h1, hp⟩
  refine ⟨rfl, rfl, ?_⟩
  simp [r_pairs_in, N_pairs_in, startD, endP, outs, dRet, dRetV, dsThen, dM1, dThen, daThen, dC, dLc, dItems, dVar, dVarV, still, D.items, D.isTxt, wipeD, SVd_f, SVd_o, SVd_b, SVm_f, SVm_o, SVm_b, SVp_f, SVp_o, SVp_b, dOp, dIn_s, dNotin_s, dEq_s, dEq_i, dEq_b, dNe_s, dNe_i, T_len, T_inj, dTT, lcTurn, gN, nbor, onB_bl, nborL, backD, T_subIn, dCall, daCons, daNil, dTup, dLst, dSeq, dIf, dPass, dSet, dDrop, dAsg, dOr, dAnd, dNot, dIfE, dIxV, dFn, dFnB, gT, gsCons, gsNil, S.parts_of, S.without, dLc2]
  refine ⟨h1, fun L pm => ?_⟩
  have hp2 : ∀ R : List (List Nat × List Nat), R.Perm (([] : List (List Nat × List Nat)) ++ L.flatMap fun x => (partsU (off l x)).map fun y => (x, y)) → P (.ok (.own (.lst (R.map pD)))) [] := fun R hR => hp R (hR.trans (by
    simp only [List.nil_append, pairsU]
    exact pm.flatMap_right _))
  have hL : ([] : List (List Nat × List Nat)).length + 64 * L.length ≤ 5000 := by
    have := pm.length_eq
    have := partsU_64 h1
    simp
    omega
  clear pm hp
  show dLc2Go _ _ _ _ _ _ _ _ (L.map tD) (([] : List (List Nat × List Nat)).map pD) _ _
  revert hp2 hL
  generalize ([] : List (List Nat × List Nat)) = A
  induction L generalizing A with
  | nil =>
    intro hp2 hL
    simp [dLc2Go]
    simpa using hp2 A (by simp)
  | cons x L ih =>
    intro hp2 hL
    rw [List.map_cons]
    unfold dLc2Go
    simp [startD, endP, outs, dRet, dRetV, dsThen, dM1, dThen, daThen, dC, dLc, dItems, dVar, dVarV, still, D.items, D.isTxt, wipeD, SVd_f, SVd_o, SVd_b, SVm_f, SVm_o, SVm_b, SVp_f, SVp_o, SVp_b, dOp, dIn_s, dNotin_s, dEq_s, dEq_i, dEq_b, dNe_s, dNe_i, T_len, T_inj, dTT, lcTurn, gN, nbor, onB_bl, nborL, backD, T_subIn, dCall, daCons, daNil, dTup, dLst, dSeq, dIf, dPass, dSet, dDrop, dAsg, dOr, dAnd, dNot, dIfE, dIxV, dFn, dFnB, gT, gsCons, gsNil] at hL ⊢
    refine ⟨_, _, ⟨rfl, rfl⟩, by omega, Nat.le_trans len_off h1, fun L2 pm2 => ?_⟩
    have h64 := partsU_64 (Nat.le_trans (len_off (a := l) (b := x)) h1)
    have hl2 := pm2.length_eq
    refine lcAll (val := fun y => pD (x, y)) L2 _ _ (fun y hy K hk => ?_) (by unfold sizeLine; simp; omega) ?_
    · simp [startD, endP, outs, dRet, dRetV, dsThen, dM1, dThen, daThen, dC, dLc, dItems, dVar, dVarV, still, D.items, D.isTxt, wipeD, SVd_f, SVd_o, SVd_b, SVm_f, SVm_o, SVm_b, SVp_f, SVp_o, SVp_b, dOp, dIn_s, dNotin_s, dEq_s, dEq_i, dEq_b, dNe_s, dNe_i, T_len, T_inj, dTT, lcTurn, gN, nbor, onB_bl, nborL, backD, T_subIn, dCall, daCons, daNil, dTup, dLst, dSeq, dIf, dPass, dSet, dDrop, dAsg, dOr, dAnd, dNot, dIfE, dIxV, dFn, dFnB, gT, gsCons, gsNil] at hk ⊢
      exact ⟨by unfold sizeLine; omega, hk⟩
    · intro acc' ea
      simp at ea
      subst ea
      simp [startD, endP, outs, dRet, dRetV, dsThen, dM1, dThen, daThen, dC, dLc, dItems, dVar, dVarV, still, D.items, D.isTxt, wipeD, SVd_f, SVd_o, SVd_b, SVm_f, SVm_o, SVm_b, SVp_f, SVp_o, SVp_b, dOp, dIn_s, dNotin_s, dEq_s, dEq_i, dEq_b, dNe_s, dNe_i, T_len, T_inj, dTT, lcTurn, gN, nbor, onB_bl, nborL, backD, T_subIn, dCall, daCons, daNil, dTup, dLst, dSeq, dIf, dPass, dSet, dDrop, dAsg, dOr, dAnd, dNot, dIfE, dIxV, dFn, dFnB, gT, gsCons, gsNil]
      have e : List.map pD A ++ L2.map (fun y => pD (x, y)) = (A ++ L2.map fun y => (x, y)).map pD := by
        simp
      have z := ih (A ++ L2.map fun y => (x, y)) (fun R hR => hp2 R (hR.trans (by
        rw [List.flatMap_cons, List.append_assoc]
        exact (List.Perm.refl A).append ((pm2.map _).append (List.Perm.refl _)))) ) (by simp; omega)
      rw [← e] at z
      exact z
end K01

set_option Elab.async false
set_option linter.all false
set_option maxRecDepth 100000
set_option maxHeartbeats 4000000
namespace K01
open PySem PySem.Spec L2 Ow
set_option autoImplicit false
def metU (a b c d : List Nat) : List (List Nat × List Nat) := (pairsU (unl a b c d)).map fun p => (join (setA a b c d) p.1, join (setB a b c d) p.2)
def cpK : D → D
  | .tup [.str a, .str b] => .tup [.tup [.int a.length, .str a], .tup [.int b.length, .str b]]
  | d => d
def ckK : D → D
  | .tup [.str a, .str b] => .tup [.int a.length, .str a, .int b.length, .str b]
  | d => d
theorem cpK_D (p : List Nat × List Nat) : cpK (pD p) = .tup [.tup [.int p.1.length, tD p.1], .tup [.int p.2.length, tD p.2]] := by
  have e : cpK (pD p) = .tup [.tup [.int (T p.1).length, tD p.1], .tup [.int (T p.2).length, tD p.2]] := rfl
  rw [e, T_len, T_len]
theorem ckK_D (p : List Nat × List Nat) : ckK (pD p) = .tup [.int p.1.length, tD p.1, .int p.2.length, tD p.2] := by
  have e : ckK (pD p) = .tup [.int (T p.1).length, tD p.1, .int (T p.2).length, tD p.2] := rfl
  rw [e, T_len, T_len]
theorem ifs (e1 e2 e3 e4 x y z w : Bool) : (if (e1 && e3) = true then (if (e2 && e4) = true then false else if e2 = true then if e4 = true then false else x else y) else if e1 = true then if e3 = true then false else z else w) =
    (if e1 = true then if e3 = true then if e2 = true then if e4 = true then false else x else y else z else w) := by
  cases e1 <;> cases e2 <;> cases e3 <;> cases e4 <;> rfl
/-- a case ahead of another -/
def ltC (p q : List Nat × List Nat) : Bool := PySem.W.dataLt (ckK (pD p)).py (ckK (pD q)).py
theorem nest_flat (p q : List Nat × List Nat) : PySem.W.dataLt (cpK (pD p)).py (cpK (pD q)).py = ltC p q := by
  unfold ltC
  rw [cpK_D, cpK_D, ckK_D, ckK_D]
  simp only [D.py, pyL]
  rw [PySem.W.dataLt_pair (by simp [PySem.W.alike, PySem.W.alikeAll]) (by simp [PySem.W.alike, PySem.W.alikeAll]), PySem.W.dataLt_pair (by simp [PySem.W.alike]) (by simp [PySem.W.alike]), PySem.W.dataLt_pair (by simp [PySem.W.alike]) (by simp [PySem.W.alike]),
    PySem.W.dataLt_tuple, PySem.W.dataLt_cons (by simp [PySem.W.alike]), PySem.W.dataLt_cons (by simp [PySem.W.alike]), PySem.W.dataLt_cons (by simp [PySem.W.alike]), PySem.W.dataLt_cons (by simp [PySem.W.alike])]
  rw [PyProof.Rows.lex_irrefl]
  simp only [PyData.eqv, PyData.eqvAll, Bool.and_true]
  exact ifs _ _ _ _ _ _ _ _
theorem keyOk_cp {L : List (List Nat × List Nat)} (h : L.length ≤ 1000000) : KeyOk (L.map pD) cpK := by
  refine keyOk_of (fun a => ?_) (fun a b => ?_) (fun a => ?_) (by unfold sizeLine; omega) fun a => ?_
  · simp [cpK_D, D.pur, purL]
  · simp [cpK_D, D.py, pyL, PySem.W.alike, PySem.W.alikeAll]
  · simp [cpK_D, D.py, pyL]
  · simp [cpK_D, D.py, pyL, PyData.depth, PyData.depthAll]
theorem flat_le {α β : Type} {g : α → List β} (h : ∀ x, (g x).length ≤ 64) : ∀ L : List α, (L.flatMap g).length ≤ 64 * L.length
  | [] => by simp
  | x :: L => by
    have := flat_le h L
    have := h x
    simp only [List.flatMap_cons, List.length_append, List.length_cons]
    omega
theorem pairsU_le {l : List Nat} (h : l.length ≤ 6) : (pairsU l).length ≤ 5000 := by
  have h1 := partsU_64 h
  have h2 := flat_le (g := fun x => (partsU (off l x)).map fun y => (x, y)) (fun x => by rw [List.length_map]; exact partsU_64 (Nat.le_trans len_off h)) (partsU l)
  unfold pairsU
  omega
namespace S
def meetings : DSp := fun cs ds P => ∃ f l1 l2, cs = [] ∧ ds = [tD f, cD l1, cD l2] ∧ sm f ∧ smC l1 ∧ smC l2 ∧ match mErr f [l1, l2] with
  | none => ∀ a b c d, l1 = [a, b] → l2 = [c, d] → ∀ L : List (List Nat × List Nat), L.Perm (metU a b c d) → L.Pairwise (fun p q => ltC q p = false) → P (.ok (.own (.lst (L.map pD)))) []
  | some (c, x) => P (.ex c x) []
end S
def r_meetings : DS := (dSeq (dDrop (dFn S.check_case (daCons (dVar 0) (daCons (dVar 1) daNil)))) (dSeq (dDrop (dFn S.check_case (daCons (dVar 0) (daCons (dVar 2) daNil)))) (dSeq (dAsg (dFn S.settled (daCons (dVar 1) (daCons (dVar 2) daNil))) (gT (gsCons (gN 3) (gsCons (gN 4) gsNil)))) (dSeq (dSet 5 (dFn S.pairs_in (daCons (dFn S.unlike_fields (daCons (dVar 1) (daCons (dVar 2) daNil))) daNil))) (dSeq (dSet 6 (dLc (dItems (dVar 5)) [7] (gN 7) none (dTup (daCons (dFn S.joined (daCons (dVar 3) (daCons (dIxV 7 dIx (dC (.int 0))) daNil))) (daCons (dFn S.joined (daCons (dVar 4) (daCons (dIxV 7 dIx (dC (.int 1))) daNil))) daNil))))) (dRet (dCall (oSortK S.case_place) (daCons (dVarV 6) daNil))))))))
def N_meetings : List Str := ["fields", "one", "two", "ahead", "behind", "free", "found", "case"]
theorem p_meetings : ∀ cs ds P, S.meetings cs ds P → cs.length = 0 ∧ cs.length + ds.length = 3 ∧ r_meetings (startD N_meetings cs ds) (endP 0 P) := by
  rintro _ _ P ⟨f, l1, l2, rfl, rfl, h0, h1, h2, hp⟩
  refine ⟨rfl, rfl, ?_⟩
  simp [r_meetings, N_meetings, startD, endP, outs, dRet, dRetV, dsThen, dM1, dThen, daThen, dC, dLc, dItems, dVar, dVarV, still, D.items, D.isTxt, wipeD, SVd_f, SVd_o, SVd_b, SVm_f, SVm_o, SVm_b, SVp_f, SVp_o, SVp_b, dOp, dIn_s, dNotin_s, dEq_s, dEq_i, dEq_b, dNe_s, dNe_i, T_len, T_inj, dTT, lcTurn, gN, nbor, onB_bl, nborL, backD, T_subIn, dCall, daCons, daNil, dTup, dLst, dSeq, dIf, dPass, dSet, dDrop, dAsg, dOr, dAnd, dNot, dIfE, dIxV, dFn, dFnB, gT, gsCons, gsNil, S.check_case, dIx, atI, ixN]
  unfold mErr at hp ⊢
  refine ⟨f, l1, ⟨rfl, rfl⟩, h0, h1, ?_⟩
  cases e : fok f with
  | false => simpa [e, startD, endP, outs, dRet, dRetV, dsThen, dM1, dThen, daThen, dC, dLc, dItems, dVar, dVarV, still, D.items, D.isTxt, wipeD, SVd_f, SVd_o, SVd_b, SVm_f, SVm_o, SVm_b, SVp_f, SVp_o, SVp_b, dOp, dIn_s, dNotin_s, dEq_s, dEq_i, dEq_b, dNe_s, dNe_i, T_len, T_inj, dTT, lcTurn, gN, nbor, onB_bl, nborL, backD, T_subIn, dCall, daCons, daNil, dTup, dLst, dSeq, dIf, dPass, dSet, dDrop, dAsg, dOr, dAnd, dNot, dIfE, dIxV, dFn, dFnB, gT, gsCons, gsNil] using hp
  | true =>
    simp [e, cErr] at hp ⊢
    cases e1 : goodC f l1 with
    | false => simpa [e1] using hp
    | true =>
      simp [e1] at hp ⊢
      refine ⟨_, _, ⟨rfl, rfl⟩, h0, h2, ?_⟩
      cases e2 : goodC f l2 with
      | false => simpa [e, e2] using hp
      | true =>
        simp [e, e2] at hp ⊢
        obtain ⟨a, b, rfl⟩ := good_two e1
        obtain ⟨c, d, rfl⟩ := good_two e2
        have hp := hp _ _ _ _ rfl rfl
        have k1 := h1.2 a (by simp)
        have k2 := h1.2 b (by simp)
        simp [S.unlike_fields, S.settled]
        refine ⟨_, _, _, _, ⟨⟨rfl, rfl⟩, rfl, rfl⟩, k1, k2, ?_⟩
        simp [startD, endP, outs, dRet, dRetV, dsThen, dM1, dThen, daThen, dC, dLc, dItems, dVar, dVarV, still, D.items, D.isTxt, wipeD, SVd_f, SVd_o, SVd_b, SVm_f, SVm_o, SVm_b, SVp_f, SVp_o, SVp_b, dOp, dIn_s, dNotin_s, dEq_s, dEq_i, dEq_b, dNe_s, dNe_i, T_len, T_inj, dTT, lcTurn, gN, nbor, onB_bl, nborL, backD, T_subIn, dCall, daCons, daNil, dTup, dLst, dSeq, dIf, dPass, dSet, dDrop, dAsg, dOr, dAnd, dNot, dIfE, dIxV, dFn, dFnB, gT, gsCons, gsNil]
        refine ⟨_, _, _, _, ⟨⟨rfl, rfl⟩, rfl, rfl⟩, k1, k2, ?_⟩
        simp [S.pairs_in]
        refine ⟨len_join, fun L pm => ?_⟩
        have h5 : L.length ≤ 5000 := by
          rw [pm.length_eq]
          exact pairsU_le len_join
        refine lcAll (val := fun p => pD (join (setA a b c d) p.1, join (setB a b c d) p.2)) L [] _ (fun p _ K hk => ?_) (by unfold sizeLine; simp; omega) ?_
        · simp [startD, endP, outs, dRet, dRetV, dsThen, dM1, dThen, daThen, dC, dLc, dItems, dVar, dVarV, still, D.items, D.isTxt, wipeD, SVd_f, SVd_o, SVd_b, SVm_f, SVm_o, SVm_b, SVp_f, SVp_o, SVp_b, dOp, dIn_s, dNotin_s, dEq_s, dEq_i, dEq_b, dNe_s, dNe_i, T_len, T_inj, dTT, lcTurn, gN, nbor, onB_bl, nborL, backD, T_subIn, dCall, daCons, daNil, dTup, dLst, dSeq, dIf, dPass, dSet, dDrop, dAsg, dOr, dAnd, dNot, dIfE, dIxV, dFn, dFnB, gT, gsCons, gsNil, S.joined, dIx, atI, ixN] at hk ⊢
          exact ⟨_, _, ⟨rfl, rfl⟩, _, _, ⟨rfl, rfl⟩, by unfold sizeLine; omega, hk⟩
        · have em : L.map (fun p => pD (join (setA a b c d) p.1, join (setB a b c d) p.2)) = (L.map fun p => (join (setA a b c d) p.1, join (setB a b c d) p.2)).map pD := by
            rw [List.map_map]
            rfl
          rw [em]
          obtain ⟨L2, p2, e2, a2⟩ := srt_map (enc := pD) (key := cpK) (L.map fun p => (join (setA a b c d) p.1, join (setB a b c d) p.2))
          simp [startD, endP, outs, dRet, dRetV, dsThen, dM1, dThen, daThen, dC, dLc, dItems, dVar, dVarV, still, D.items, D.isTxt, wipeD, SVd_f, SVd_o, SVd_b, SVm_f, SVm_o, SVm_b, SVp_f, SVp_o, SVp_b, dOp, dIn_s, dNotin_s, dEq_s, dEq_i, dEq_b, dNe_s, dNe_i, T_len, T_inj, dTT, lcTurn, gN, nbor, onB_bl, nborL, backD, T_subIn, dCall, daCons, daNil, dTup, dLst, dSeq, dIf, dPass, dSet, dDrop, dAsg, dOr, dAnd, dNot, dIfE, dIxV, dFn, dFnB, gT, gsCons, gsNil, oSortK, keyAns, -List.map_map]
          refine ⟨cpK, ?_, keyOk_cp (by rw [List.length_map]; omega), ?_⟩
          · rintro dd _ _ x y _ rfl rfl rfl P hP
            refine ⟨_, _, rfl, rfl, Nat.le_trans len_join (by decide), Nat.le_trans len_join (by decide), ?_⟩
            rw [cpK_D] at hP
            exact hP
          · rw [e2]
            exact hp L2 (p2.trans (pm.map _)) (a2.imp fun h => by rw [nest_flat] at h; exact h)
end K01

set_option Elab.async false
set_option linter.all false
set_option maxRecDepth 100000
set_option maxHeartbeats 4000000
namespace K01
open PySem PySem.Spec L2 Ow
set_option autoImplicit false
def risS (f : List Nat) (o : Option Nat) (c : Nat) : Option (Option Nat) := if c ∈ f ∧ ∀ d, o = some d → d < c then some (some c) else none
def ris (f t : List Nat) : Bool := (t.foldlM (risS f) none).isSome
def rightC (f : List Nat) : Cs → Bool
  | [a, b] => ris f a && ris f b && decide (cut a b = [])
  | _ => false
def ers : List Str := ((["OutweighedError", "BadLot", "BadNames", "BadCase", "PlainCase", "BadLevel", "BadScale", "BadRow", "BadTag", "BadText", "BadPaper", "BadOrder"] : List PySem.Str) ++ (["BadPairs", "BadCount", "BadBox", "BadLine", "WrongFields", "NoRow", "NoName", "NameTaken", "NotLearnt", "NothingThere", "EmptyList", "TooMany"] : List PySem.Str) ++ (["TooDeep", "NotFrame", "NotClosure", "NotClosed", "NotSteady", "NotWord", "NotStrikable", "NotWithin", "RoundRule", "Disagrees", "BothSides", "Against"] : List PySem.Str))
def errSub (a b : Str) : Bool := a = b || b = "OutweighedError"
namespace S
def _law_rising : DSp := fun cs ds P => ∃ f t, cs = [] ∧ ds = [tD f, tD t] ∧ P (.ok (.frz (.bl (ris f t)))) []
def _law_right_case : DSp := fun cs ds P => ∃ f l, cs = [] ∧ ds = [tD f, cD l] ∧ smC l ∧ P (.ok (.frz (.bl (rightC f l)))) []
end S
def r__law_rising : DS := (dSeq (dSet 2 (dC (.str ""))) (dSeq (dFor (dItems (dVar 1)) (gN 3) (dSeq (dIf (dOr (dOp (dIn true) (dVar 3) (dVarV 0)) (dOp dLeD (dVar 3) (dVarV 2))) (dRet (dC (.bl false))) dPass) (dSet 2 (dVar 3)))) (dRet (dC (.bl true)))))
def N__law_rising : List Str := ["fields", "text", "last", "letter"]
def r__law_right_case : DS := (dSeq (dIf (dOr (dOp dNe (dCall dLen (daCons (dVarV 1) daNil)) (dC (.int 2))) (dOr (dNot (dFn S._law_rising (daCons (dVar 0) (daCons (dIxV 1 dIx (dC (.int 0))) daNil)))) (dNot (dFn S._law_rising (daCons (dVar 0) (daCons (dIxV 1 dIx (dC (.int 1))) daNil)))))) (dRet (dC (.bl false))) dPass) (dRet (dOp dEq (dCall dLen (daCons (dLc (dItems (dIxV 1 dIx (dC (.int 0)))) [2] (gN 2) (some (dOp (dIn false) (dVar 2) (dIxV 1 dIx (dC (.int 1))))) (dVar 2)) daNil)) (dC (.int 0)))))
def N__law_right_case : List Str := ["fields", "case", "field"]
theorem one_lt {c d : Nat} : (([c] : List Nat) < [d]) ↔ c < d := by
  rw [List.cons_lt_cons_iff]
  simp [List.not_lt_nil]
theorem p__law_rising : ∀ cs ds P, S._law_rising cs ds P → cs.length = 0 ∧ cs.length + ds.length = 2 ∧ r__law_rising (startD N__law_rising cs ds) (endP 0 P) := by
  rintro _ _ P ⟨f, t, rfl, rfl, hp⟩
  refine ⟨rfl, rfl, ?_⟩
  simp [r__law_rising, N__law_rising, startD, endP, outs, dRet, dRetV, dsThen, dM1, dThen, daThen, dC, dLc, dItems, dVar, dVarV, still, D.items, D.isTxt, wipeD, SVd_f, SVd_o, SVd_b, SVm_f, SVm_o, SVm_b, SVp_f, SVp_o, SVp_b, dOp, dIn_s, dNotin_s, dEq_s, dEq_i, dEq_b, dNe_s, dNe_i, T_len, T_inj, dTT, lcTurn, gN, nbor, onB_bl, nborL, backD, T_subIn, dCall, daCons, daNil, dTup, dLst, dSeq, dIf, dPass, dSet, dDrop, dAsg, dOr, dAnd, dNot, dIfE, dIxV, dFn, dFnB, gT, gsCons, gsNil, dFor]
  rw [T_signs]
  refine forEnd (α := Option Nat) (fun o => [some (.frz (tD f)), some (.frz (tD t)), some (.frz (match o with | none => .str (Str.ofString "") | some c => sgn c)), o.map fun c => .frz (sgn c)]) (risS f) (.frz (.bl false)) (fun _ _ => True)
    (fun c r o o' _ e => ?_) (fun c r o _ e K hk => ?_) t none trivial (fun a' ea _ => ?_) (fun ea ρ => ?_)
  · refine ⟨trivial, fun K hk => ?_⟩
    unfold risS at e
    split at e
    · rename_i h
      cases e
      cases o with
      | none =>
        simp [startD, endP, outs, dRet, dRetV, dsThen, dM1, dThen, daThen, dC, dLc, dItems, dVar, dVarV, still, D.items, D.isTxt, wipeD, SVd_f, SVd_o, SVd_b, SVm_f, SVm_o, SVm_b, SVp_f, SVp_o, SVp_b, dOp, dIn_s, dNotin_s, dEq_s, dEq_i, dEq_b, dNe_s, dNe_i, T_len, T_inj, dTT, lcTurn, gN, nbor, onB_bl, nborL, backD, T_subIn, dCall, daCons, daNil, dTup, dLst, dSeq, dIf, dPass, dSet, dDrop, dAsg, dOr, dAnd, dNot, dIfE, dIxV, dFn, dFnB, gT, gsCons, gsNil, dLeD, dLe, h.1] at hk ⊢
        rw [if_neg (by rw [← List.not_lt, empty_T]; simp)]
        exact hk
      | some d =>
        simp [startD, endP, outs, dRet, dRetV, dsThen, dM1, dThen, daThen, dC, dLc, dItems, dVar, dVarV, still, D.items, D.isTxt, wipeD, SVd_f, SVd_o, SVd_b, SVm_f, SVm_o, SVm_b, SVp_f, SVp_o, SVp_b, dOp, dIn_s, dNotin_s, dEq_s, dEq_i, dEq_b, dNe_s, dNe_i, T_len, T_inj, dTT, lcTurn, gN, nbor, onB_bl, nborL, backD, T_subIn, dCall, daCons, daNil, dTup, dLst, dSeq, dIf, dPass, dSet, dDrop, dAsg, dOr, dAnd, dNot, dIfE, dIxV, dFn, dFnB, gT, gsCons, gsNil, dLeD, dLe, h.1] at hk ⊢
        rw [if_neg (by rw [← List.not_lt, one_lt]; have := h.2 d rfl; omega)]
        exact hk
    · cases e
  · unfold risS at e
    split at e
    · cases e
    · rename_i h
      cases o with
      | none =>
        simp [startD, endP, outs, dRet, dRetV, dsThen, dM1, dThen, daThen, dC, dLc, dItems, dVar, dVarV, still, D.items, D.isTxt, wipeD, SVd_f, SVd_o, SVd_b, SVm_f, SVm_o, SVm_b, SVp_f, SVp_o, SVp_b, dOp, dIn_s, dNotin_s, dEq_s, dEq_i, dEq_b, dNe_s, dNe_i, T_len, T_inj, dTT, lcTurn, gN, nbor, onB_bl, nborL, backD, T_subIn, dCall, daCons, daNil, dTup, dLst, dSeq, dIf, dPass, dSet, dDrop, dAsg, dOr, dAnd, dNot, dIfE, dIxV, dFn, dFnB, gT, gsCons, gsNil, dLeD, dLe] at hk h ⊢
        simp [h, startD, endP, outs, dRet, dRetV, dsThen, dM1, dThen, daThen, dC, dLc, dItems, dVar, dVarV, still, D.items, D.isTxt, wipeD, SVd_f, SVd_o, SVd_b, SVm_f, SVm_o, SVm_b, SVp_f, SVp_o, SVp_b, dOp, dIn_s, dNotin_s, dEq_s, dEq_i, dEq_b, dNe_s, dNe_i, T_len, T_inj, dTT, lcTurn, gN, nbor, onB_bl, nborL, backD, T_subIn, dCall, daCons, daNil, dTup, dLst, dSeq, dIf, dPass, dSet, dDrop, dAsg, dOr, dAnd, dNot, dIfE, dIxV, dFn, dFnB, gT, gsCons, gsNil]
        exact hk _
      | some d =>
        simp [startD, endP, outs, dRet, dRetV, dsThen, dM1, dThen, daThen, dC, dLc, dItems, dVar, dVarV, still, D.items, D.isTxt, wipeD, SVd_f, SVd_o, SVd_b, SVm_f, SVm_o, SVm_b, SVp_f, SVp_o, SVp_b, dOp, dIn_s, dNotin_s, dEq_s, dEq_i, dEq_b, dNe_s, dNe_i, T_len, T_inj, dTT, lcTurn, gN, nbor, onB_bl, nborL, backD, T_subIn, dCall, daCons, daNil, dTup, dLst, dSeq, dIf, dPass, dSet, dDrop, dAsg, dOr, dAnd, dNot, dIfE, dIxV, dFn, dFnB, gT, gsCons, gsNil, dLeD, dLe] at hk h ⊢
        by_cases hc : c ∈ f
        · have := h hc
          simp [hc, startD, endP, outs, dRet, dRetV, dsThen, dM1, dThen, daThen, dC, dLc, dItems, dVar, dVarV, still, D.items, D.isTxt, wipeD, SVd_f, SVd_o, SVd_b, SVm_f, SVm_o, SVm_b, SVp_f, SVp_o, SVp_b, dOp, dIn_s, dNotin_s, dEq_s, dEq_i, dEq_b, dNe_s, dNe_i, T_len, T_inj, dTT, lcTurn, gN, nbor, onB_bl, nborL, backD, T_subIn, dCall, daCons, daNil, dTup, dLst, dSeq, dIf, dPass, dSet, dDrop, dAsg, dOr, dAnd, dNot, dIfE, dIxV, dFn, dFnB, gT, gsCons, gsNil]
          rw [if_pos (by rw [← List.not_lt, one_lt]; omega)]
          exact hk _
        · simp [hc, startD, endP, outs, dRet, dRetV, dsThen, dM1, dThen, daThen, dC, dLc, dItems, dVar, dVarV, still, D.items, D.isTxt, wipeD, SVd_f, SVd_o, SVd_b, SVm_f, SVm_o, SVm_b, SVp_f, SVp_o, SVp_b, dOp, dIn_s, dNotin_s, dEq_s, dEq_i, dEq_b, dNe_s, dNe_i, T_len, T_inj, dTT, lcTurn, gN, nbor, onB_bl, nborL, backD, T_subIn, dCall, daCons, daNil, dTup, dLst, dSeq, dIf, dPass, dSet, dDrop, dAsg, dOr, dAnd, dNot, dIfE, dIxV, dFn, dFnB, gT, gsCons, gsNil]
          exact hk _
  · have e : ris f t = true := by unfold ris; rw [ea]; rfl
    rw [e] at hp
    exact hp
  · have e : ris f t = false := by unfold ris; rw [ea]; rfl
    rw [e] at hp
    exact hp
theorem p__law_right_case : ∀ cs ds P, S._law_right_case cs ds P → cs.length = 0 ∧ cs.length + ds.length = 2 ∧ r__law_right_case (startD N__law_right_case cs ds) (endP 0 P) := by
  rintro _ _ P ⟨f, l, rfl, rfl, h2, hp⟩
  refine ⟨rfl, rfl, ?_⟩
  simp [r__law_right_case, N__law_right_case, startD, endP, outs, dRet, dRetV, dsThen, dM1, dThen, daThen, dC, dLc, dItems, dVar, dVarV, still, D.items, D.isTxt, wipeD, SVd_f, SVd_o, SVd_b, SVm_f, SVm_o, SVm_b, SVp_f, SVp_o, SVp_b, dOp, dIn_s, dNotin_s, dEq_s, dEq_i, dEq_b, dNe_s, dNe_i, T_len, T_inj, dTT, lcTurn, gN, nbor, onB_bl, nborL, backD, T_subIn, dCall, daCons, daNil, dTup, dLst, dSeq, dIf, dPass, dSet, dDrop, dAsg, dOr, dAnd, dNot, dIfE, dIxV, dFn, dFnB, gT, gsCons, gsNil, S._law_rising, dLen, dIx]
  match l, h2, hp with
  | [], _, hp => simpa [rightC] using hp
  | [_], _, hp => simpa [rightC] using hp
  | _ :: _ :: _ :: r, _, hp =>
    rw [if_neg (by simp; omega)]
    simpa [rightC] using hp
  | [a, b], ⟨_, h2⟩, hp =>
    have ha := h2 a (by simp)
    have hb := h2 b (by simp)
    simp only [rightC] at hp
    simp [atI, ixN]
    refine ⟨_, _, ⟨rfl, rfl⟩, ?_⟩
    cases e1 : ris f a with
    | false => simpa [e1] using hp
    | true =>
      simp
      refine ⟨_, _, ⟨rfl, rfl⟩, ?_⟩
      cases e2 : ris f b with
      | false => simpa [e1, e2] using hp
      | true =>
        simp [startD, endP, outs, dRet, dRetV, dsThen, dM1, dThen, daThen, dC, dLc, dItems, dVar, dVarV, still, D.items, D.isTxt, wipeD, SVd_f, SVd_o, SVd_b, SVm_f, SVm_o, SVm_b, SVp_f, SVp_o, SVp_b, dOp, dIn_s, dNotin_s, dEq_s, dEq_i, dEq_b, dNe_s, dNe_i, T_len, T_inj, dTT, lcTurn, gN, nbor, onB_bl, nborL, backD, T_subIn, dCall, daCons, daNil, dTup, dLst, dSeq, dIf, dPass, dSet, dDrop, dAsg, dOr, dAnd, dNot, dIfE, dIxV, dFn, dFnB, gT, gsCons, gsNil]
        refine lcSigns (p := fun c => decide (c ∈ b)) (val := sgn) (fun c _ K h => ?_) (by unfold sizeLine; omega) ?_
        · by_cases hc : c ∈ b <;> simp [startD, endP, outs, dRet, dRetV, dsThen, dM1, dThen, daThen, dC, dLc, dItems, dVar, dVarV, still, D.items, D.isTxt, wipeD, SVd_f, SVd_o, SVd_b, SVm_f, SVm_o, SVm_b, SVp_f, SVp_o, SVp_b, dOp, dIn_s, dNotin_s, dEq_s, dEq_i, dEq_b, dNe_s, dNe_i, T_len, T_inj, dTT, lcTurn, gN, nbor, onB_bl, nborL, backD, T_subIn, dCall, daCons, daNil, dTup, dLst, dSeq, dIf, dPass, dSet, dDrop, dAsg, dOr, dAnd, dNot, dIfE, dIxV, dFn, dFnB, gT, gsCons, gsNil, hc, dIx, atI, ixN] at h ⊢ <;> exact h
        · simp [startD, endP, outs, dRet, dRetV, dsThen, dM1, dThen, daThen, dC, dLc, dItems, dVar, dVarV, still, D.items, D.isTxt, wipeD, SVd_f, SVd_o, SVd_b, SVm_f, SVm_o, SVm_b, SVp_f, SVp_o, SVp_b, dOp, dIn_s, dNotin_s, dEq_s, dEq_i, dEq_b, dNe_s, dNe_i, T_len, T_inj, dTT, lcTurn, gN, nbor, onB_bl, nborL, backD, T_subIn, dCall, daCons, daNil, dTup, dLst, dSeq, dIf, dPass, dSet, dDrop, dAsg, dOr, dAnd, dNot, dIfE, dIxV, dFn, dFnB, gT, gsCons, gsNil]
          have e : (decide (cut a b = [])) = decide (∀ c ∈ a, c ∉ b) := by simp [cut, List.filter_eq_nil_iff]
          simp [e1, e2] at hp
          unfold cut at hp
          simpa [List.filter_eq_nil_iff] using hp
def r__law_refusal : DS := (dSeq (dIf (dOr (dOp dEq (dVar 1) (dC (.str ""))) (dNot (dFn S._law_rising (daCons (dC (.str "abcdef")) (daCons (dVar 1) daNil))))) (dRet (dTup (daCons (dC (.str "refused")) (daCons (dC (.str " lot")) (daCons (dVar 1) daNil))))) dPass) (dSeq (dFor (dItems (dLst (daCons (dVar 2) (daCons (dVar 3) daNil)))) (gN 5) (dIf (dNot (dFn S._law_right_case (daCons (dVar 1) (daCons (dVar 5) daNil)))) (dRet (dTup (daCons (dC (.str "refused")) (daCons (dC (.str " case")) (daCons (dVar 5) daNil))))) dPass)) (dSeq (dIf (dAnd (dOp dEq (dVar 0) (dC (.int 1))) (dNot (dFn S._law_right_case (daCons (dVar 1) (daCons (dVar 4) daNil))))) (dRet (dTup (daCons (dC (.str "refused")) (daCons (dC (.str " case")) (daCons (dVar 4) daNil))))) dPass) (dRet (dTup daNil)))))
def N__law_refusal : List Str := ["which", "fields", "one", "two", "third", "case"]
def r__law_asked : DS := (dSeq (dTry ers errSub "OutweighedError" 6 (dSet 5 (dIfE (dOp dEq (dVar 0) (dC (.int 0))) (dFn S.meetings (daCons (dVar 1) (daCons (dVar 2) (daCons (dVar 3) daNil)))) (dFn S.is_meeting (daCons (dVar 1) (daCons (dVar 2) (daCons (dVar 3) (daCons (dVar 4) daNil))))))) (fun ec ex ea => (dSeq (dSet 7 (dC (.str ""))) (dSeq (dIf (dIsX 6 ea (errSub ec "BadLot")) (dSet 7 (dOp dAdd (dVar 7) (dC (.str " lot")))) dPass) (dSeq (dIf (dIsX 6 ea (errSub ec "BadCase")) (dSet 7 (dOp dAdd (dVar 7) (dC (.str " case")))) dPass) (dSeq (dIf (dIsX 6 ea (List.any ((["BadNames", "PlainCase", "BadLevel", "BadScale", "BadRow", "BadTag", "BadText", "BadPaper", "BadOrder", "BadPairs", "BadCount", "BadBox"] : List PySem.Str) ++ (["BadLine", "WrongFields", "NoRow", "NoName", "NameTaken", "NotLearnt", "NothingThere", "EmptyList", "TooMany", "TooDeep", "NotFrame", "NotClosure"] : List PySem.Str) ++ (["NotClosed", "NotSteady", "NotWord", "NotStrikable", "NotWithin", "RoundRule", "Disagrees", "BothSides", "Against"] : List PySem.Str)) (errSub ec))) (dSet 7 (dOp dAdd (dVar 7) (dC (.str " other")))) dPass) (dSeq (dIf (dNot (dIsX 6 ea true)) (dSet 7 (dOp dAdd (dVar 7) (dC (.str " odd")))) dPass) (dRet (dTup (daCons (dC (.str "refused")) (daCons (dVar 7) (daCons (dAt 6 ea ex) daNil)))))))))))) (dRet (dTup (daCons (dC (.str "good")) (daCons (dVar 5) daNil)))))
def N__law_asked : List Str := ["which", "fields", "one", "two", "third", "answer", "e", "kind"]
/-- ascending -/
abbrev asc (l : List Nat) : Prop := l.Pairwise (· < ·)
theorem risS_some {f : List Nat} {o : Option Nat} {c : Nat} {o' : Option Nat} : risS f o c = some o' ↔ (c ∈ f ∧ ∀ d, o = some d → d < c) ∧ o' = some c := by
  unfold risS
  split
  · rename_i h
    constructor
    · intro e
      cases e
      exact ⟨h, rfl⟩
    · rintro ⟨_, rfl⟩
      rfl
  · rename_i h
    constructor
    · intro e
      cases e
    · rintro ⟨z, _⟩
      exact absurd z h
theorem ris_go (f : List Nat) : ∀ (t : List Nat) (o : Option Nat), (t.foldlM (risS f) o).isSome = true ↔ (∀ c ∈ t, c ∈ f) ∧ asc t ∧ ∀ d, o = some d → ∀ c ∈ t, d < c
  | [], o => by simp
  | c :: t, o => by
    rw [List.foldlM_cons]
    cases e : risS f o c with
    | none =>
      constructor
      · intro z
        cases z
      · rintro ⟨h1, h2, h3⟩
        have : risS f o c = some (some c) := risS_some.mpr ⟨⟨h1 c (by simp), fun d hd => h3 d hd c (by simp)⟩, rfl⟩
        rw [e] at this
        cases this
    | some o' =>
      obtain ⟨⟨h1, h2⟩, rfl⟩ := risS_some.mp e
      have ih := ris_go f t (some c)
      simp only [Option.bind_eq_bind, Option.bind_some]
      rw [ih]
      constructor
      · rintro ⟨a1, a2, a3⟩
        have a3 := a3 c rfl
        refine ⟨fun x hx => ?_, List.pairwise_cons.mpr ⟨a3, a2⟩, fun d hd x hx => ?_⟩
        · rcases List.mem_cons.mp hx with e | e
          · rw [e]; exact h1
          · exact a1 x e
        · rcases List.mem_cons.mp hx with e | e
          · rw [e]; exact h2 d hd
          · exact Nat.lt_trans (h2 d hd) (a3 x e)
      · rintro ⟨a1, a2, a3⟩
        have a2 := List.pairwise_cons.mp a2
        exact ⟨fun x hx => a1 x (List.mem_cons_of_mem _ hx), a2.2, fun d hd => by cases hd; exact a2.1⟩
theorem ris_iff {f t : List Nat} : ris f t = true ↔ (∀ c ∈ t, c ∈ f) ∧ asc t := by
  unfold ris
  rw [ris_go]
  simp
/-- two ascending lists of the same members -/
theorem asc_eq : ∀ {a b : List Nat}, asc a → asc b → (∀ c, c ∈ a ↔ c ∈ b) → a = b
  | [], [], _, _, _ => rfl
  | [], y :: b, _, _, h => by have := (h y).mpr (by simp); simp at this
  | x :: a, [], _, _, h => by have := (h x).mp (by simp); simp at this
  | x :: a, y :: b, ha, hb, h => by
    have pa := List.pairwise_cons.mp ha
    have pb := List.pairwise_cons.mp hb
    have e : x = y := by
      have h1 := (h x).mp (by simp)
      have h2 := (h y).mpr (by simp)
      simp at h1 h2
      rcases h1 with h1 | h1
      · exact h1
      · rcases h2 with h2 | h2
        · exact h2.symm
        · have := pa.1 y h2
          have := pb.1 x h1
          omega
    subst e
    rw [asc_eq pa.2 pb.2 fun c => by
      have hc := h c
      constructor
      · intro z
        rcases List.mem_cons.mp (hc.mp (List.mem_cons_of_mem _ z)) with e | e
        · have := pa.1 c z
          omega
        · exact e
      · intro z
        rcases List.mem_cons.mp (hc.mpr (List.mem_cons_of_mem _ z)) with e | e
        · have := pb.1 c z
          omega
        · exact e]
theorem asc_filter {p : Nat → Bool} {f : List Nat} (h : asc f) : asc (f.filter p) := List.Pairwise.filter _ h
/-- lots of ascending fields -/
theorem lotOn_iff {f t : List Nat} (hf : asc f) : lotOn f t = true ↔ (∀ c ∈ t, c ∈ f) ∧ asc t := by
  constructor
  · intro h
    refine ⟨lot_sub h, ?_⟩
    unfold lotOn at h
    simp at h
    rw [← h.2]
    exact asc_filter hf
  · rintro ⟨h1, h2⟩
    have e : cut f t = t := asc_eq (asc_filter hf) h2 fun c => by
      rw [mem_cut]
      exact ⟨fun z => z.2, fun z => ⟨h1 c z, z⟩⟩
    unfold lotOn
    have := len_cut (a := f) (b := t)
    rw [e] at this
    simp [e, this]
theorem ris_lot {f t : List Nat} (hf : asc f) : ris f t = lotOn f t := by
  rw [Bool.eq_iff_iff, ris_iff, lotOn_iff hf]
theorem asc_FL : asc FL := by decide
theorem fok_asc {f : List Nat} (h : fok f = true) : asc f := by
  unfold fok at h
  simp at h
  exact ((lotOn_iff asc_FL).mp h.1).2
theorem right_good {f : List Nat} (hf : asc f) (l : Cs) : rightC f l = goodC f l := by
  match l with
  | [] => rfl
  | [_] => rfl
  | [a, b] => simp [rightC, goodC, ris_lot hf]
  | _ :: _ :: _ :: _ => rfl
/-- how a fault is told -/
def refD : Option (Str × D) → D
  | none => .tup []
  | some (c, x) => .tup [.str "refused", .str (if c = "BadLot" then " lot" else " case"), x]
abbrev askL (w : Nat) (l1 l2 l3 : Cs) : List Cs := if w = 1 then [l1, l2, l3] else [l1, l2]
namespace S
def _law_refusal : DSp := fun cs ds P => ∃ (w : Nat) (f : List Nat) (l1 l2 l3 : Cs), cs = [] ∧ ds = [.int w, tD f, cD l1, cD l2, cD l3] ∧ sm f ∧ smC l1 ∧ smC l2 ∧ smC l3 ∧ P (.ok (.frz (refD (mErr f (askL w l1 l2 l3))))) []
end S
theorem p__law_refusal : ∀ cs ds P, S._law_refusal cs ds P → cs.length = 0 ∧ cs.length + ds.length = 5 ∧ r__law_refusal (startD N__law_refusal cs ds) (endP 0 P) := by
  rintro _ _ P ⟨w, f, l1, l2, l3, rfl, rfl, h0, h1, h2, h3, hp⟩
  refine ⟨rfl, rfl, ?_⟩
  simp [r__law_refusal, N__law_refusal, startD, endP, outs, dRet, dRetV, dsThen, dM1, dThen, daThen, dC, dLc, dItems, dVar, dVarV, still, D.items, D.isTxt, wipeD, SVd_f, SVd_o, SVd_b, SVm_f, SVm_o, SVm_b, SVp_f, SVp_o, SVp_b, dOp, dIn_s, dNotin_s, dEq_s, dEq_i, dEq_b, dNe_s, dNe_i, T_len, T_inj, dTT, lcTurn, gN, nbor, onB_bl, nborL, backD, T_subIn, dCall, daCons, daNil, dTup, dLst, dSeq, dIf, dPass, dSet, dDrop, dAsg, dOr, dAnd, dNot, dIfE, dIxV, dFn, dFnB, gT, gsCons, gsNil, S._law_rising, S._law_right_case, FL_T, T_nil, dFor]
  have nq : ¬ (("BadCase" : Str) = "BadLot") := by decide
  by_cases hf : f = []
  · subst hf
    simp [mErr, fok, refD] at hp
    simp
    exact ⟨by unfold sizeLine; omega, hp⟩
  rw [if_neg hf]
  refine ⟨_, _, ⟨rfl, rfl⟩, ?_⟩
  rw [ris_lot asc_FL]
  cases e : lotOn FL f with
  | false =>
    simp [mErr, fok, refD, e] at hp
    simp
    exact ⟨by unfold sizeLine; omega, hp⟩
  | true =>
    have ek : fok f = true := by simp [fok, e, hf]
    have ea := fok_asc ek
    have eg : ∀ l, rightC f l = goodC f l := right_good ea
    simp [mErr, ek] at hp
    simp
    refine ⟨by unfold sizeLine; omega, ?_⟩
    simp [dForGo, startD, endP, outs, dRet, dRetV, dsThen, dM1, dThen, daThen, dC, dLc, dItems, dVar, dVarV, still, D.items, D.isTxt, wipeD, SVd_f, SVd_o, SVd_b, SVm_f, SVm_o, SVm_b, SVp_f, SVp_o, SVp_b, dOp, dIn_s, dNotin_s, dEq_s, dEq_i, dEq_b, dNe_s, dNe_i, T_len, T_inj, dTT, lcTurn, gN, nbor, onB_bl, nborL, backD, T_subIn, dCall, daCons, daNil, dTup, dLst, dSeq, dIf, dPass, dSet, dDrop, dAsg, dOr, dAnd, dNot, dIfE, dIxV, dFn, dFnB, gT, gsCons, gsNil]
    refine ⟨f, l1, ⟨rfl, rfl⟩, h1, ?_⟩
    rw [eg]
    cases e1 : goodC f l1 with
    | false =>
      have z : cErr f (askL w l1 l2 l3) = some (("BadCase" : Str), cD l1) := by unfold askL; split <;> simp [cErr, e1]
      rw [z] at hp
      simp [startD, endP, outs, dRet, dRetV, dsThen, dM1, dThen, daThen, dC, dLc, dItems, dVar, dVarV, still, D.items, D.isTxt, wipeD, SVd_f, SVd_o, SVd_b, SVm_f, SVm_o, SVm_b, SVp_f, SVp_o, SVp_b, dOp, dIn_s, dNotin_s, dEq_s, dEq_i, dEq_b, dNe_s, dNe_i, T_len, T_inj, dTT, lcTurn, gN, nbor, onB_bl, nborL, backD, T_subIn, dCall, daCons, daNil, dTup, dLst, dSeq, dIf, dPass, dSet, dDrop, dAsg, dOr, dAnd, dNot, dIfE, dIxV, dFn, dFnB, gT, gsCons, gsNil]
      refine ⟨by unfold sizeLine; omega, ?_⟩
      simpa [refD, nq] using hp
    | true =>
      simp [startD, endP, outs, dRet, dRetV, dsThen, dM1, dThen, daThen, dC, dLc, dItems, dVar, dVarV, still, D.items, D.isTxt, wipeD, SVd_f, SVd_o, SVd_b, SVm_f, SVm_o, SVm_b, SVp_f, SVp_o, SVp_b, dOp, dIn_s, dNotin_s, dEq_s, dEq_i, dEq_b, dNe_s, dNe_i, T_len, T_inj, dTT, lcTurn, gN, nbor, onB_bl, nborL, backD, T_subIn, dCall, daCons, daNil, dTup, dLst, dSeq, dIf, dPass, dSet, dDrop, dAsg, dOr, dAnd, dNot, dIfE, dIxV, dFn, dFnB, gT, gsCons, gsNil]
      refine ⟨f, l2, ⟨rfl, rfl⟩, h2, ?_⟩
      rw [eg]
      cases e2 : goodC f l2 with
      | false =>
        have z : cErr f (askL w l1 l2 l3) = some (("BadCase" : Str), cD l2) := by unfold askL; split <;> simp [cErr, e1, e2]
        rw [z] at hp
        simp [startD, endP, outs, dRet, dRetV, dsThen, dM1, dThen, daThen, dC, dLc, dItems, dVar, dVarV, still, D.items, D.isTxt, wipeD, SVd_f, SVd_o, SVd_b, SVm_f, SVm_o, SVm_b, SVp_f, SVp_o, SVp_b, dOp, dIn_s, dNotin_s, dEq_s, dEq_i, dEq_b, dNe_s, dNe_i, T_len, T_inj, dTT, lcTurn, gN, nbor, onB_bl, nborL, backD, T_subIn, dCall, daCons, daNil, dTup, dLst, dSeq, dIf, dPass, dSet, dDrop, dAsg, dOr, dAnd, dNot, dIfE, dIxV, dFn, dFnB, gT, gsCons, gsNil]
        refine ⟨by unfold sizeLine; omega, ?_⟩
        simpa [refD, nq] using hp
      | true =>
        simp [startD, endP, outs, dRet, dRetV, dsThen, dM1, dThen, daThen, dC, dLc, dItems, dVar, dVarV, still, D.items, D.isTxt, wipeD, SVd_f, SVd_o, SVd_b, SVm_f, SVm_o, SVm_b, SVp_f, SVp_o, SVp_b, dOp, dIn_s, dNotin_s, dEq_s, dEq_i, dEq_b, dNe_s, dNe_i, T_len, T_inj, dTT, lcTurn, gN, nbor, onB_bl, nborL, backD, T_subIn, dCall, daCons, daNil, dTup, dLst, dSeq, dIf, dPass, dSet, dDrop, dAsg, dOr, dAnd, dNot, dIfE, dIxV, dFn, dFnB, gT, gsCons, gsNil]
        by_cases hw : w = 1
        · have hw' : (w : Int) = 1 := by omega
          rw [if_pos hw']
          refine ⟨f, l3, ⟨rfl, rfl⟩, h3, ?_⟩
          rw [eg]
          simp [askL, hw, cErr, e1, e2] at hp
          cases e3 : goodC f l3 with
          | false =>
            simp [e3] at hp
            simp
            refine ⟨by unfold sizeLine; omega, ?_⟩
            simpa [refD, nq] using hp
          | true =>
            simp [e3] at hp
            exact hp
        · have hw' : ¬ (w : Int) = 1 := by omega
          rw [if_neg hw']
          simp [askL, hw, cErr, e1, e2] at hp
          exact hp
namespace S
def _law_asked : DSp := fun cs ds P => ∃ (w : Nat) (f : List Nat) (l1 l2 l3 : Cs), cs = [] ∧ ds = [.int w, tD f, cD l1, cD l2, cD l3] ∧ w ≤ 1 ∧ sm f ∧ smC l1 ∧ smC l2 ∧ smC l3 ∧
  (mErr f (askL w l1 l2 l3) ≠ none → P (.ok (.frz (refD (mErr f (askL w l1 l2 l3))))) []) ∧
  (mErr f (askL w l1 l2 l3) = none → w = 1 → P (.ok (.frz (.tup [.str "good", .bl (meetsC l1 l2 l3)]))) []) ∧
  (mErr f (askL w l1 l2 l3) = none → w = 0 → ∀ a b c d, l1 = [a, b] → l2 = [c, d] → ∀ L : List (List Nat × List Nat), L.Perm (metU a b c d) → L.Pairwise (fun p q => ltC q p = false) → P (.ok (.frz (.tup [.str "good", .lst (L.map pD)]))) [])
end S
theorem mErr_what {f : List Nat} {ls : List Cs} {c : Str} {x : D} (h : mErr f ls = some (c, x)) : c = "BadLot" ∨ c = "BadCase" := by
  unfold mErr at h
  split at h
  · right
    induction ls with
    | nil => cases h
    | cons l ls ih =>
      unfold cErr at h
      split at h
      · exact ih h
      · cases h
        rfl
  · cases h
    exact .inl rfl
end K01

set_option Elab.async false
set_option linter.all false
set_option maxRecDepth 100000
set_option maxHeartbeats 4000000
namespace K01
open PySem PySem.Spec L2 Ow
set_option autoImplicit false
def h__law_asked : Str → D → Addr → DS := (fun ec ex ea => (dSeq (dSet 7 (dC (.str ""))) (dSeq (dIf (dIsX 6 ea (errSub ec "BadLot")) (dSet 7 (dOp dAdd (dVar 7) (dC (.str " lot")))) dPass) (dSeq (dIf (dIsX 6 ea (errSub ec "BadCase")) (dSet 7 (dOp dAdd (dVar 7) (dC (.str " case")))) dPass) (dSeq (dIf (dIsX 6 ea (List.any ((["BadNames", "PlainCase", "BadLevel", "BadScale", "BadRow", "BadTag", "BadText", "BadPaper", "BadOrder", "BadPairs", "BadCount", "BadBox"] : List PySem.Str) ++ (["BadLine", "WrongFields", "NoRow", "NoName", "NameTaken", "NotLearnt", "NothingThere", "EmptyList", "TooMany", "TooDeep", "NotFrame", "NotClosure"] : List PySem.Str) ++ (["NotClosed", "NotSteady", "NotWord", "NotStrikable", "NotWithin", "RoundRule", "Disagrees", "BothSides", "Against"] : List PySem.Str)) (errSub ec))) (dSet 7 (dOp dAdd (dVar 7) (dC (.str " other")))) dPass) (dSeq (dIf (dNot (dIsX 6 ea true)) (dSet 7 (dOp dAdd (dVar 7) (dC (.str " odd")))) dPass) (dRet (dTup (daCons (dC (.str "refused")) (daCons (dVar 7) (daCons (dAt 6 ea ex) daNil)))))))))))
def q__law_asked : DS := (dSeq (dTry ers errSub "OutweighedError" 6 (dSet 5 (dIfE (dOp dEq (dVar 0) (dC (.int 0))) (dFn S.meetings (daCons (dVar 1) (daCons (dVar 2) (daCons (dVar 3) daNil)))) (dFn S.is_meeting (daCons (dVar 1) (daCons (dVar 2) (daCons (dVar 3) (daCons (dVar 4) daNil))))))) h__law_asked) (dRet (dTup (daCons (dC (.str "good")) (daCons (dVar 5) daNil)))))
theorem ask_h {c : Str} (hc : c = "BadLot" ∨ c = "BadCase") {x d0 d1 d2 d3 d4 : D} {a : Addr} {P : SO → Ow.Env → Prop}
    (hp : ∀ z, P (.ret (.frz (.tup [.str "refused", .str (if c = "BadLot" then " lot" else " case"), x]))) [some (.frz d0), some (.frz d1), some (.frz d2), some (.frz d3), some (.frz d4), none, some (.frz (.ptr a)), z]) :
    h__law_asked c x a [some (.frz d0), some (.frz d1), some (.frz d2), some (.frz d3), some (.frz d4), none, some (.frz (.ptr a)), none] P := by
  have nq : ¬ (("BadCase" : Str) = "BadLot") := by decide
  rcases hc with rfl | rfl
  · have e1 : errSub "BadLot" "BadLot" = true := by decide
    have e2 : errSub "BadLot" "BadCase" = false := by decide
    have e3 : List.any ((["BadNames", "PlainCase", "BadLevel", "BadScale", "BadRow", "BadTag", "BadText", "BadPaper", "BadOrder", "BadPairs", "BadCount", "BadBox"] : List PySem.Str) ++ (["BadLine", "WrongFields", "NoRow", "NoName", "NameTaken", "NotLearnt", "NothingThere", "EmptyList", "TooMany", "TooDeep", "NotFrame", "NotClosure"] : List PySem.Str) ++ (["NotClosed", "NotSteady", "NotWord", "NotStrikable", "NotWithin", "RoundRule", "Disagrees", "BothSides", "Against"] : List PySem.Str)) (errSub "BadLot") = false := by decide +kernel
    unfold h__law_asked
    rw [e1, e2, e3]
    have e4 : (Str.ofString "" ++ Str.ofString " lot" : Str) = Str.ofString " lot" := by decide
    have e5 : (Str.ofString "").length + (Str.ofString " lot").length ≤ sizeLine := by decide
    simp [startD, endP, outs, dRet, dRetV, dsThen, dM1, dThen, daThen, dC, dLc, dItems, dVar, dVarV, still, D.items, D.isTxt, wipeD, SVd_f, SVd_o, SVd_b, SVm_f, SVm_o, SVm_b, SVp_f, SVp_o, SVp_b, dOp, dIn_s, dNotin_s, dEq_s, dEq_i, dEq_b, dNe_s, dNe_i, T_len, T_inj, dTT, lcTurn, gN, nbor, onB_bl, nborL, backD, T_subIn, dCall, daCons, daNil, dTup, dLst, dSeq, dIf, dPass, dSet, dDrop, dAsg, dOr, dAnd, dNot, dIfE, dIxV, dFn, dFnB, gT, gsCons, gsNil, dIsX, dAt, dAdd, e4, e5] at hp ⊢
    exact ⟨by unfold sizeLine; omega, hp _⟩
  · have e1 : errSub "BadCase" "BadLot" = false := by decide
    have e2 : errSub "BadCase" "BadCase" = true := by decide
    have e3 : List.any ((["BadNames", "PlainCase", "BadLevel", "BadScale", "BadRow", "BadTag", "BadText", "BadPaper", "BadOrder", "BadPairs", "BadCount", "BadBox"] : List PySem.Str) ++ (["BadLine", "WrongFields", "NoRow", "NoName", "NameTaken", "NotLearnt", "NothingThere", "EmptyList", "TooMany", "TooDeep", "NotFrame", "NotClosure"] : List PySem.Str) ++ (["NotClosed", "NotSteady", "NotWord", "NotStrikable", "NotWithin", "RoundRule", "Disagrees", "BothSides", "Against"] : List PySem.Str)) (errSub "BadCase") = false := by decide +kernel
    unfold h__law_asked
    rw [e1, e2, e3]
    have e4 : (Str.ofString "" ++ Str.ofString " case" : Str) = Str.ofString " case" := by decide
    have e5 : (Str.ofString "").length + (Str.ofString " case").length ≤ sizeLine := by decide
    simp [startD, endP, outs, dRet, dRetV, dsThen, dM1, dThen, daThen, dC, dLc, dItems, dVar, dVarV, still, D.items, D.isTxt, wipeD, SVd_f, SVd_o, SVd_b, SVm_f, SVm_o, SVm_b, SVp_f, SVp_o, SVp_b, dOp, dIn_s, dNotin_s, dEq_s, dEq_i, dEq_b, dNe_s, dNe_i, T_len, T_inj, dTT, lcTurn, gN, nbor, onB_bl, nborL, backD, T_subIn, dCall, daCons, daNil, dTup, dLst, dSeq, dIf, dPass, dSet, dDrop, dAsg, dOr, dAnd, dNot, dIfE, dIxV, dFn, dFnB, gT, gsCons, gsNil, dIsX, dAt, dAdd, e4, e5, nq] at hp ⊢
    exact ⟨by unfold sizeLine; omega, hp _⟩
theorem p__law_asked : ∀ cs ds P, S._law_asked cs ds P → cs.length = 0 ∧ cs.length + ds.length = 5 ∧ r__law_asked (startD N__law_asked cs ds) (endP 0 P) := by
  rintro _ _ P ⟨w, f, l1, l2, l3, rfl, rfl, hw, h0, h1, h2, h3, k1, k2, k3⟩
  refine ⟨rfl, rfl, ?_⟩
  rw [show r__law_asked = q__law_asked from rfl]
  by_cases hw1 : w = 1
  · subst hw1
    simp [q__law_asked, N__law_asked, startD, endP, outs, dRet, dRetV, dsThen, dM1, dThen, daThen, dC, dLc, dItems, dVar, dVarV, still, D.items, D.isTxt, wipeD, SVd_f, SVd_o, SVd_b, SVm_f, SVm_o, SVm_b, SVp_f, SVp_o, SVp_b, dOp, dIn_s, dNotin_s, dEq_s, dEq_i, dEq_b, dNe_s, dNe_i, T_len, T_inj, dTT, lcTurn, gN, nbor, onB_bl, nborL, backD, T_subIn, dCall, daCons, daNil, dTup, dLst, dSeq, dIf, dPass, dSet, dDrop, dAsg, dOr, dAnd, dNot, dIfE, dIxV, dFn, dFnB, gT, gsCons, gsNil, S.is_meeting, dTry]
    refine ⟨_, _, _, _, ⟨rfl, rfl, rfl, rfl⟩, h0, h1, h2, h3, ?_⟩
    simp [askL] at k1 k2
    cases e : mErr f [l1, l2, l3] with
    | none =>
      simp [e] at k2 ⊢
      exact ⟨by unfold sizeLine; omega, k2⟩
    | some q =>
      obtain ⟨c, x⟩ := q
      simp [e] at k1 ⊢
      have hc := mErr_what e
      refine ⟨?_, fun a => ?_⟩
      · rcases hc with rfl | rfl <;> decide +kernel
      · refine ask_h hc fun z => ?_
        simp
        exact k1
  · have hw0 : w = 0 := by omega
    subst hw0
    simp [q__law_asked, N__law_asked, startD, endP, outs, dRet, dRetV, dsThen, dM1, dThen, daThen, dC, dLc, dItems, dVar, dVarV, still, D.items, D.isTxt, wipeD, SVd_f, SVd_o, SVd_b, SVm_f, SVm_o, SVm_b, SVp_f, SVp_o, SVp_b, dOp, dIn_s, dNotin_s, dEq_s, dEq_i, dEq_b, dNe_s, dNe_i, T_len, T_inj, dTT, lcTurn, gN, nbor, onB_bl, nborL, backD, T_subIn, dCall, daCons, daNil, dTup, dLst, dSeq, dIf, dPass, dSet, dDrop, dAsg, dOr, dAnd, dNot, dIfE, dIxV, dFn, dFnB, gT, gsCons, gsNil, S.meetings, dTry]
    refine ⟨_, _, _, ⟨rfl, rfl, rfl⟩, h0, h1, h2, ?_⟩
    simp [askL] at k1 k3
    cases e : mErr f [l1, l2] with
    | none =>
      simp [e] at k3 ⊢
      intro a b c d e1 e2 L pm as
      exact ⟨by unfold sizeLine; omega, k3 a b c d e1 e2 L pm as⟩
    | some q =>
      obtain ⟨c, x⟩ := q
      simp [e] at k1 ⊢
      have hc := mErr_what e
      refine ⟨?_, fun a => ?_⟩
      · rcases hc with rfl | rfl <;> decide +kernel
      · refine ask_h hc fun z => ?_
        simp
        exact k1
end K01

set_option Elab.async false
set_option linter.all false
set_option maxRecDepth 100000
set_option maxHeartbeats 4000000
namespace K01
open PySem PySem.Spec L2 Ow
set_option autoImplicit false
/-- the sign of a field in a case -/
def sgnN (a b : List Nat) (c : Nat) : Nat := if c ∈ a then 1 else if c ∈ b then 2 else 0
abbrev nI (n : Nat) : D := .int n
def sig (x y : Nat) : Nat := if x = y then 0 else if y < x then 1 else 2
namespace S
def _law_sign_in : DSp := fun cs ds P => ∃ a b c, cs = [] ∧ ds = [cD [a, b], sgn c] ∧ P (.ok (.frz (nI (sgnN a b c)))) []
def _law_sign : DSp := fun cs ds P => ∃ x y : Nat, cs = [] ∧ ds = [nI x, nI y] ∧ P (.ok (.frz (nI (sig x y)))) []
def _law_is_case : DSp := fun cs ds P => ∃ f a b, cs = [] ∧ ds = [tD f, cD [a, b]] ∧ sm f ∧ sm a ∧ sm b ∧ P (.ok (.frz (.bl (decide (cut f a = a) && decide (cut f b = b) && decide (cut a b = []))))) []
end S
def r__law_sign_in : DS := (dSeq (dIf (dOp (dIn false) (dVar 1) (dIxV 0 dIx (dC (.int 0)))) (dRet (dC (.int 1))) dPass) (dRet (dIfE (dOp (dIn false) (dVar 1) (dIxV 0 dIx (dC (.int 1)))) (dC (.int 2)) (dC (.int 0)))))
def N__law_sign_in : List Str := ["case", "field"]
def r__law_sign : DS := (dSeq (dIf (dOp dEq (dVar 0) (dVarV 1)) (dRet (dC (.int 0))) dPass) (dRet (dIfE (dOp dGt (dVar 0) (dVarV 1)) (dC (.int 1)) (dC (.int 2)))))
def N__law_sign : List Str := ["x", "y"]
def r__law_is_case : DS := (dSeq (dIf (dOr (dNot (dIsi [.tup] (dVarV 1))) (dOp dNe (dCall dLen (daCons (dVarV 1) daNil)) (dC (.int 2)))) (dRet (dC (.bl false))) dPass) (dSeq (dIf (dOr (dNot (dFn S._law_is_lot (daCons (dVar 0) (daCons (dIxV 1 dIx (dC (.int 0))) daNil)))) (dNot (dFn S._law_is_lot (daCons (dVar 0) (daCons (dIxV 1 dIx (dC (.int 1))) daNil))))) (dRet (dC (.bl false))) dPass) (dRet (dOp dEq (dFn S._law_common (daCons (dIxV 1 dIx (dC (.int 0))) (daCons (dIxV 1 dIx (dC (.int 1))) daNil))) (dC (.str ""))))))
def N__law_is_case : List Str := ["fields", "thing"]
theorem p__law_sign_in : ∀ cs ds P, S._law_sign_in cs ds P → cs.length = 0 ∧ cs.length + ds.length = 2 ∧ r__law_sign_in (startD N__law_sign_in cs ds) (endP 0 P) := by
  rintro _ _ P ⟨a, b, c, rfl, rfl, hp⟩
  refine ⟨rfl, rfl, ?_⟩
  simp [r__law_sign_in, N__law_sign_in, startD, endP, outs, dRet, dRetV, dsThen, dM1, dThen, daThen, dC, dLc, dItems, dVar, dVarV, still, D.items, D.isTxt, wipeD, SVd_f, SVd_o, SVd_b, SVm_f, SVm_o, SVm_b, SVp_f, SVp_o, SVp_b, dOp, dIn_s, dNotin_s, dEq_s, dEq_i, dEq_b, dNe_s, dNe_i, T_len, T_inj, dTT, lcTurn, gN, nbor, onB_bl, nborL, backD, T_subIn, dCall, daCons, daNil, dTup, dLst, dSeq, dIf, dPass, dSet, dDrop, dAsg, dOr, dAnd, dNot, dIfE, dIxV, dFn, dFnB, gT, gsCons, gsNil, dIx, atI, ixN]
  by_cases h1 : c ∈ a
  · simpa [nI, sgnN, h1] using hp
  · by_cases h2 : c ∈ b
    · simpa [nI, sgnN, h1, h2, startD, endP, outs, dRet, dRetV, dsThen, dM1, dThen, daThen, dC, dLc, dItems, dVar, dVarV, still, D.items, D.isTxt, wipeD, SVd_f, SVd_o, SVd_b, SVm_f, SVm_o, SVm_b, SVp_f, SVp_o, SVp_b, dOp, dIn_s, dNotin_s, dEq_s, dEq_i, dEq_b, dNe_s, dNe_i, T_len, T_inj, dTT, lcTurn, gN, nbor, onB_bl, nborL, backD, T_subIn, dCall, daCons, daNil, dTup, dLst, dSeq, dIf, dPass, dSet, dDrop, dAsg, dOr, dAnd, dNot, dIfE, dIxV, dFn, dFnB, gT, gsCons, gsNil] using hp
    · simpa [nI, sgnN, h1, h2, startD, endP, outs, dRet, dRetV, dsThen, dM1, dThen, daThen, dC, dLc, dItems, dVar, dVarV, still, D.items, D.isTxt, wipeD, SVd_f, SVd_o, SVd_b, SVm_f, SVm_o, SVm_b, SVp_f, SVp_o, SVp_b, dOp, dIn_s, dNotin_s, dEq_s, dEq_i, dEq_b, dNe_s, dNe_i, T_len, T_inj, dTT, lcTurn, gN, nbor, onB_bl, nborL, backD, T_subIn, dCall, daCons, daNil, dTup, dLst, dSeq, dIf, dPass, dSet, dDrop, dAsg, dOr, dAnd, dNot, dIfE, dIxV, dFn, dFnB, gT, gsCons, gsNil] using hp
theorem p__law_sign : ∀ cs ds P, S._law_sign cs ds P → cs.length = 0 ∧ cs.length + ds.length = 2 ∧ r__law_sign (startD N__law_sign cs ds) (endP 0 P) := by
  rintro _ _ P ⟨x, y, rfl, rfl, hp⟩
  refine ⟨rfl, rfl, ?_⟩
  simp [r__law_sign, N__law_sign, startD, endP, outs, dRet, dRetV, dsThen, dM1, dThen, daThen, dC, dLc, dItems, dVar, dVarV, still, D.items, D.isTxt, wipeD, SVd_f, SVd_o, SVd_b, SVm_f, SVm_o, SVm_b, SVp_f, SVp_o, SVp_b, dOp, dIn_s, dNotin_s, dEq_s, dEq_i, dEq_b, dNe_s, dNe_i, T_len, T_inj, dTT, lcTurn, gN, nbor, onB_bl, nborL, backD, T_subIn, dCall, daCons, daNil, dTup, dLst, dSeq, dIf, dPass, dSet, dDrop, dAsg, dOr, dAnd, dNot, dIfE, dIxV, dFn, dFnB, gT, gsCons, gsNil, dGt]
  by_cases h1 : x = y
  · have : (x : Int) = y := by omega
    simpa [nI, sig, h1, this] using hp
  · have k1 : ¬ (x : Int) = y := by omega
    by_cases h2 : y < x
    · have : (y : Int) < x := by omega
      simpa [nI, sig, h1, h2, k1, this, startD, endP, outs, dRet, dRetV, dsThen, dM1, dThen, daThen, dC, dLc, dItems, dVar, dVarV, still, D.items, D.isTxt, wipeD, SVd_f, SVd_o, SVd_b, SVm_f, SVm_o, SVm_b, SVp_f, SVp_o, SVp_b, dOp, dIn_s, dNotin_s, dEq_s, dEq_i, dEq_b, dNe_s, dNe_i, T_len, T_inj, dTT, lcTurn, gN, nbor, onB_bl, nborL, backD, T_subIn, dCall, daCons, daNil, dTup, dLst, dSeq, dIf, dPass, dSet, dDrop, dAsg, dOr, dAnd, dNot, dIfE, dIxV, dFn, dFnB, gT, gsCons, gsNil] using hp
    · have : ¬ (y : Int) < x := by omega
      simpa [nI, sig, h1, h2, k1, this, startD, endP, outs, dRet, dRetV, dsThen, dM1, dThen, daThen, dC, dLc, dItems, dVar, dVarV, still, D.items, D.isTxt, wipeD, SVd_f, SVd_o, SVd_b, SVm_f, SVm_o, SVm_b, SVp_f, SVp_o, SVp_b, dOp, dIn_s, dNotin_s, dEq_s, dEq_i, dEq_b, dNe_s, dNe_i, T_len, T_inj, dTT, lcTurn, gN, nbor, onB_bl, nborL, backD, T_subIn, dCall, daCons, daNil, dTup, dLst, dSeq, dIf, dPass, dSet, dDrop, dAsg, dOr, dAnd, dNot, dIfE, dIxV, dFn, dFnB, gT, gsCons, gsNil] using hp
theorem p__law_is_case : ∀ cs ds P, S._law_is_case cs ds P → cs.length = 0 ∧ cs.length + ds.length = 2 ∧ r__law_is_case (startD N__law_is_case cs ds) (endP 0 P) := by
  rintro _ _ P ⟨f, a, b, rfl, rfl, h0, h1, h2, hp⟩
  refine ⟨rfl, rfl, ?_⟩
  simp [r__law_is_case, N__law_is_case, startD, endP, outs, dRet, dRetV, dsThen, dM1, dThen, daThen, dC, dLc, dItems, dVar, dVarV, still, D.items, D.isTxt, wipeD, SVd_f, SVd_o, SVd_b, SVm_f, SVm_o, SVm_b, SVp_f, SVp_o, SVp_b, dOp, dIn_s, dNotin_s, dEq_s, dEq_i, dEq_b, dNe_s, dNe_i, T_len, T_inj, dTT, lcTurn, gN, nbor, onB_bl, nborL, backD, T_subIn, dCall, daCons, daNil, dTup, dLst, dSeq, dIf, dPass, dSet, dDrop, dAsg, dOr, dAnd, dNot, dIfE, dIxV, dFn, dFnB, gT, gsCons, gsNil, dIx, atI, ixN, dIsi, D.isaL, D.isa, dLen, S._law_is_lot, S._law_common, S.shared, T_nil]
  refine ⟨_, _, ⟨rfl, rfl⟩, h0, ?_⟩
  by_cases e1 : cut f a = a
  · simp [e1]
    refine ⟨_, _, ⟨rfl, rfl⟩, h0, ?_⟩
    by_cases e2 : cut f b = b
    · simp [e2, startD, endP, outs, dRet, dRetV, dsThen, dM1, dThen, daThen, dC, dLc, dItems, dVar, dVarV, still, D.items, D.isTxt, wipeD, SVd_f, SVd_o, SVd_b, SVm_f, SVm_o, SVm_b, SVp_f, SVp_o, SVp_b, dOp, dIn_s, dNotin_s, dEq_s, dEq_i, dEq_b, dNe_s, dNe_i, T_len, T_inj, dTT, lcTurn, gN, nbor, onB_bl, nborL, backD, T_subIn, dCall, daCons, daNil, dTup, dLst, dSeq, dIf, dPass, dSet, dDrop, dAsg, dOr, dAnd, dNot, dIfE, dIxV, dFn, dFnB, gT, gsCons, gsNil]
      refine ⟨_, _, ⟨rfl, rfl⟩, h1, ?_⟩
      simpa [e1, e2, T_nil] using hp
    · simpa [e1, e2] using hp
  · simpa [e1] using hp
end K01

set_option Elab.async false
set_option linter.all false
set_option maxRecDepth 100000
set_option maxHeartbeats 4000000
namespace K01
open PySem PySem.Spec L2 Ow
set_option autoImplicit false
theorem range_n {n : Nat} : rangeD 0 n = (List.range n).map nI := by
  simp [rangeD]
theorem pur_n : ∀ F : List Nat, purL (F.map nI) = true
  | [] => by simp [purL]
  | n :: F => by simp [purL, D.pur, pur_n F]
theorem lay_n : ∀ F : List Nat, PyData.canLayAll0 (pyL (F.map nI)) = true ∧ PyData.depthAll (pyL (F.map nI)) ≤ 1
  | [] => by simp [pyL, PyData.canLayAll0, PyData.depthAll]
  | n :: F => by
    have := lay_n F
    simp [pyL, PyData.canLayAll0, PyData.depthAll, D.py, PyData.canLay0, PyData.depth, this]
theorem any_n (z : Nat) : ∀ F : List Nat, ((F.map nI).any fun x => x.py.eqv (nI z).py) = decide (z ∈ F)
  | [] => by simp
  | n :: F => by
    rw [List.map_cons, List.any_cons, any_n z F]
    by_cases h : z = n
    · subst h
      simp [D.py, PyData.eqv]
    · have h' : ¬ ((n : Int) = z) := by omega
      simp [D.py, PyData.eqv, h, h']
theorem dNotin_n {z : Nat} {F : List Nat} {P : SV → Prop} : dIn true (nI z) (.lst (F.map nI)) P = P (.frz (.bl (!decide (z ∈ F)))) := by
  unfold dIn inAns
  have h := lay_n F
  simp [D.pur, pur_n, SeqAt.shaped, D.py, PyData.canLay0, PyData.depth, h]
  have e := any_n z F
  rw [List.any_map] at e
  simp only [D.py] at e
  have e2 : (F.any ((fun z_1 => z_1.py.eqv (PyData.int (z : Int))) ∘ nI)) = decide (z ∈ F) := e
  rw [e2]
  constructor
  · exact fun h => h.2
  · exact fun h' => ⟨Nat.le_trans h.2 (by decide), h'⟩
def shStep (s t x y : Nat) (F : List Nat) (z : Nat) : List Nat := if sig x y = s ∧ sig y z = t ∧ ¬ sig x z ∈ F then F ++ [sig x z] else F
def sh3 (s t x y : Nat) (F : List Nat) : List Nat := (List.range 3).foldl (shStep s t x y) F
def sh2 (s t x : Nat) (F : List Nat) : List Nat := (List.range 3).foldl (fun F y => sh3 s t x y F) F
/-- the signs that a third may show -/
def shown (s t : Nat) : List Nat := (List.range 3).foldl (fun F x => sh2 s t x F) []
theorem fold_len {f : List Nat → Nat → List Nat} {k : Nat} (h : ∀ F b, (f F b).length ≤ F.length + k) : ∀ (l F : List Nat), (l.foldl f F).length ≤ F.length + k * l.length
  | [], F => by simp
  | b :: l, F => by
    have := h F b
    have := fold_len h l (f F b)
    simp only [List.foldl_cons, List.length_cons, Nat.mul_add]
    omega
theorem sh1_len {s t x y : Nat} (F : List Nat) (z : Nat) : (shStep s t x y F z).length ≤ F.length + 1 := by
  unfold shStep
  split <;> simp
theorem sh3_len {s t x y : Nat} (F : List Nat) : (sh3 s t x y F).length ≤ F.length + 3 := fold_len sh1_len _ _
theorem sh2_len {s t x : Nat} (F : List Nat) : (sh2 s t x F).length ≤ F.length + 9 := fold_len (fun F _ => sh3_len F) _ _
namespace S
def _law_shown : DSp := fun cs ds P => ∃ s t : Nat, cs = [] ∧ ds = [nI s, nI t] ∧ P (.ok (.own (.lst ((shown s t).map nI)))) []
end S
def r__law_shown : DS := (dSeq (dSet 2 (dLst daNil)) (dSeq (dFor (daMap (daCons (dC (.int 3)) daNil) kRng1) (gN 3) (dFor (daMap (daCons (dC (.int 3)) daNil) kRng1) (gN 4) (dFor (daMap (daCons (dC (.int 3)) daNil) kRng1) (gN 5) (dSeq (dSet 6 (dFn S._law_sign (daCons (dVar 3) (daCons (dVar 5) daNil)))) (dIf (dAnd (dOp dEq (dFn S._law_sign (daCons (dVar 3) (daCons (dVar 4) daNil))) (dVarV 0)) (dAnd (dOp dEq (dFn S._law_sign (daCons (dVar 4) (daCons (dVar 5) daNil))) (dVarV 1)) (dOp (dIn true) (dVar 6) (dVarV 2)))) (dDrop (dMut 2 xAppend (daCons (dVar 6) daNil))) dPass))))) (dRetV 2)))
def N__law_shown : List Str := ["sign", "other", "found", "x", "y", "z", "third"]
abbrev shE (s t : Nat) (F : List Nat) (o3 o4 o5 o6 : Option Nat) : Ow.Env := [some (.frz (nI s)), some (.frz (nI t)), some (.own (.lst (F.map nI))), o3.map fun n => .frz (nI n), o4.map fun n => .frz (nI n), o5.map fun n => .frz (nI n), o6.map fun n => .frz (nI n)]
abbrev rng3 : DA := daMap (daCons (dC (.int 3)) daNil) kRng1
def shB1 : DS := (dSeq (dSet 6 (dFn S._law_sign (daCons (dVar 3) (daCons (dVar 5) daNil)))) (dIf (dAnd (dOp dEq (dFn S._law_sign (daCons (dVar 3) (daCons (dVar 4) daNil))) (dVarV 0)) (dAnd (dOp dEq (dFn S._law_sign (daCons (dVar 4) (daCons (dVar 5) daNil))) (dVarV 1)) (dOp (dIn true) (dVar 6) (dVarV 2)))) (dDrop (dMut 2 xAppend (daCons (dVar 6) daNil))) dPass))
def shB2 : DS := dFor rng3 (gN 5) shB1
def shB3 : DS := dFor rng3 (gN 4) shB2
theorem sh_b1 {s t x y z : Nat} {F : List Nat} {o6 : Option Nat} {K : SO → Ow.Env → Prop} (hF : F.length ≤ 100) (hk : K .nx (shE s t (shStep s t x y F z) (some x) (some y) (some z) (some (sig x z)))) : shB1 (shE s t F (some x) (some y) (some z) o6) K := by
  have hnb : nbor (shE s t F (some x) (some y) (some z) o6)[6]? := by cases o6 <;> simp [shE, nbor]
  unfold shStep at hk
  have ei : ∀ a b : Nat, ((a : Int) = b) = (a = b) := fun a b => propext Int.ofNat_inj
  have hs : F.length < sizeLine := by unfold sizeLine; omega
  cases o6 <;> (
    simp [shB1, startD, endP, outs, dRet, dRetV, dsThen, dM1, dThen, daThen, dC, dLc, dItems, dVar, dVarV, still, D.items, D.isTxt, wipeD, SVd_f, SVd_o, SVd_b, SVm_f, SVm_o, SVm_b, SVp_f, SVp_o, SVp_b, dOp, dIn_s, dNotin_s, dEq_s, dEq_i, dEq_b, dNe_s, dNe_i, T_len, T_inj, dTT, lcTurn, gN, nbor, onB_bl, nborL, backD, T_subIn, dCall, daCons, daNil, dTup, dLst, dSeq, dIf, dPass, dSet, dDrop, dAsg, dOr, dAnd, dNot, dIfE, dIxV, dFn, dFnB, gT, gsCons, gsNil, S._law_sign]
    refine ⟨_, _, ⟨rfl, rfl⟩, _, _, ⟨rfl, rfl⟩, ?_⟩
    simp [startD, endP, outs, dRet, dRetV, dsThen, dM1, dThen, daThen, dC, dLc, dItems, dVar, dVarV, still, D.items, D.isTxt, wipeD, SVd_f, SVd_o, SVd_b, SVm_f, SVm_o, SVm_b, SVp_f, SVp_o, SVp_b, dOp, dIn_s, dNotin_s, dEq_s, dEq_i, dEq_b, dNe_s, dNe_i, T_len, T_inj, dTT, lcTurn, gN, nbor, onB_bl, nborL, backD, T_subIn, dCall, daCons, daNil, dTup, dLst, dSeq, dIf, dPass, dSet, dDrop, dAsg, dOr, dAnd, dNot, dIfE, dIxV, dFn, dFnB, gT, gsCons, gsNil, ei]
    by_cases h1 : sig x y = s
    · simp [h1, startD, endP, outs, dRet, dRetV, dsThen, dM1, dThen, daThen, dC, dLc, dItems, dVar, dVarV, still, D.items, D.isTxt, wipeD, SVd_f, SVd_o, SVd_b, SVm_f, SVm_o, SVm_b, SVp_f, SVp_o, SVp_b, dOp, dIn_s, dNotin_s, dEq_s, dEq_i, dEq_b, dNe_s, dNe_i, T_len, T_inj, dTT, lcTurn, gN, nbor, onB_bl, nborL, backD, T_subIn, dCall, daCons, daNil, dTup, dLst, dSeq, dIf, dPass, dSet, dDrop, dAsg, dOr, dAnd, dNot, dIfE, dIxV, dFn, dFnB, gT, gsCons, gsNil]
      refine ⟨_, _, ⟨rfl, rfl⟩, ?_⟩
      by_cases h2 : sig y z = t
      · simp [h2, startD, endP, outs, dRet, dRetV, dsThen, dM1, dThen, daThen, dC, dLc, dItems, dVar, dVarV, still, D.items, D.isTxt, wipeD, SVd_f, SVd_o, SVd_b, SVm_f, SVm_o, SVm_b, SVp_f, SVp_o, SVp_b, dOp, dIn_s, dNotin_s, dEq_s, dEq_i, dEq_b, dNe_s, dNe_i, T_len, T_inj, dTT, lcTurn, gN, nbor, onB_bl, nborL, backD, T_subIn, dCall, daCons, daNil, dTup, dLst, dSeq, dIf, dPass, dSet, dDrop, dAsg, dOr, dAnd, dNot, dIfE, dIxV, dFn, dFnB, gT, gsCons, gsNil, ei, dNotin_n]
        by_cases h3 : sig x z ∈ F
        · simp [h1, h2, h3] at hk
          simp [h3]
          exact hk
        · simp [h1, h2, h3] at hk
          simp [h3, dMut, startD, endP, outs, dRet, dRetV, dsThen, dM1, dThen, daThen, dC, dLc, dItems, dVar, dVarV, still, D.items, D.isTxt, wipeD, SVd_f, SVd_o, SVd_b, SVm_f, SVm_o, SVm_b, SVp_f, SVp_o, SVp_b, dOp, dIn_s, dNotin_s, dEq_s, dEq_i, dEq_b, dNe_s, dNe_i, T_len, T_inj, dTT, lcTurn, gN, nbor, onB_bl, nborL, backD, T_subIn, dCall, daCons, daNil, dTup, dLst, dSeq, dIf, dPass, dSet, dDrop, dAsg, dOr, dAnd, dNot, dIfE, dIxV, dFn, dFnB, gT, gsCons, gsNil, xAppend, hs]
          simp only [shE, List.map_append] at hk
          exact hk
      · simp [h1, h2] at hk
        simp [h2, startD, endP, outs, dRet, dRetV, dsThen, dM1, dThen, daThen, dC, dLc, dItems, dVar, dVarV, still, D.items, D.isTxt, wipeD, SVd_f, SVd_o, SVd_b, SVm_f, SVm_o, SVm_b, SVp_f, SVp_o, SVp_b, dOp, dIn_s, dNotin_s, dEq_s, dEq_i, dEq_b, dNe_s, dNe_i, T_len, T_inj, dTT, lcTurn, gN, nbor, onB_bl, nborL, backD, T_subIn, dCall, daCons, daNil, dTup, dLst, dSeq, dIf, dPass, dSet, dDrop, dAsg, dOr, dAnd, dNot, dIfE, dIxV, dFn, dFnB, gT, gsCons, gsNil, ei]
        exact hk
    · simp [h1] at hk
      simp [h1, startD, endP, outs, dRet, dRetV, dsThen, dM1, dThen, daThen, dC, dLc, dItems, dVar, dVarV, still, D.items, D.isTxt, wipeD, SVd_f, SVd_o, SVd_b, SVm_f, SVm_o, SVm_b, SVp_f, SVp_o, SVp_b, dOp, dIn_s, dNotin_s, dEq_s, dEq_i, dEq_b, dNe_s, dNe_i, T_len, T_inj, dTT, lcTurn, gN, nbor, onB_bl, nborL, backD, T_subIn, dCall, daCons, daNil, dTup, dLst, dSeq, dIf, dPass, dSet, dDrop, dAsg, dOr, dAnd, dNot, dIfE, dIxV, dFn, dFnB, gT, gsCons, gsNil]
      exact hk)
theorem range3_of {i : Nat} : (rangeD 0 i) = (List.range i).map nI := range_n
theorem sh_b2 {s t x y : Nat} {F : List Nat} {o5 o6 : Option Nat} {K : SO → Ow.Env → Prop} (hF : F.length ≤ 90) (hk : ∀ o5 o6, K .nx (shE s t (sh3 s t x y F) (some x) (some y) o5 o6)) : shB2 (shE s t F (some x) (some y) o5 o6) K := by
  unfold shB2 dFor
  simp [daMap, startD, endP, outs, dRet, dRetV, dsThen, dM1, dThen, daThen, dC, dLc, dItems, dVar, dVarV, still, D.items, D.isTxt, wipeD, SVd_f, SVd_o, SVd_b, SVm_f, SVm_o, SVm_b, SVp_f, SVp_o, SVp_b, dOp, dIn_s, dNotin_s, dEq_s, dEq_i, dEq_b, dNe_s, dNe_i, T_len, T_inj, dTT, lcTurn, gN, nbor, onB_bl, nborL, backD, T_subIn, dCall, daCons, daNil, dTup, dLst, dSeq, dIf, dPass, dSet, dDrop, dAsg, dOr, dAnd, dNot, dIfE, dIxV, dFn, dFnB, gT, gsCons, gsNil, kRng1, range_n]
  refine forMap (α := List Nat × Option Nat × Option Nat) (fun a => shE s t a.1 (some x) (some y) a.2.1 a.2.2) (fun a z => (shStep s t x y a.1 z, some z, some (sig x z))) (fun r a => a.1.length + r.length ≤ 93)
    (fun z r a hi => ⟨?_, fun K hk => ?_⟩) (List.range 3) (F, o5, o6) (by simp; omega) (fun hi => ?_)
  · have := sh1_len (s := s) (t := t) (x := x) (y := y) a.1 z
    simp at hi ⊢
    omega
  · simp at hi
    have z := sh_b1 (s := s) (t := t) (x := x) (y := y) (z := z) (F := a.1) (o6 := a.2.2) (K := K) (by omega) hk
    obtain ⟨a1, a2, a3⟩ := a
    cases a2 <;> simpa [startD, endP, outs, dRet, dRetV, dsThen, dM1, dThen, daThen, dC, dLc, dItems, dVar, dVarV, still, D.items, D.isTxt, wipeD, SVd_f, SVd_o, SVd_b, SVm_f, SVm_o, SVm_b, SVp_f, SVp_o, SVp_b, dOp, dIn_s, dNotin_s, dEq_s, dEq_i, dEq_b, dNe_s, dNe_i, T_len, T_inj, dTT, lcTurn, gN, nbor, onB_bl, nborL, backD, T_subIn, dCall, daCons, daNil, dTup, dLst, dSeq, dIf, dPass, dSet, dDrop, dAsg, dOr, dAnd, dNot, dIfE, dIxV, dFn, dFnB, gT, gsCons, gsNil, shE] using z
  · have e : ∀ (l : List Nat) (a : List Nat × Option Nat × Option Nat), (l.foldl (fun (a : List Nat × Option Nat × Option Nat) z => (shStep s t x y a.1 z, some z, some (sig x z))) a).1 = l.foldl (shStep s t x y) a.1 := by
      intro l
      induction l with
      | nil => intro a; rfl
      | cons b l ih => intro a; exact ih _
    rw [e]
    exact hk _ _
theorem sh_b3 {s t x : Nat} {F : List Nat} {o4 o5 o6 : Option Nat} {K : SO → Ow.Env → Prop} (hF : F.length ≤ 70) (hk : ∀ o4 o5 o6, K .nx (shE s t (sh2 s t x F) (some x) o4 o5 o6)) : shB3 (shE s t F (some x) o4 o5 o6) K := by
  unfold shB3 dFor
  simp [daMap, startD, endP, outs, dRet, dRetV, dsThen, dM1, dThen, daThen, dC, dLc, dItems, dVar, dVarV, still, D.items, D.isTxt, wipeD, SVd_f, SVd_o, SVd_b, SVm_f, SVm_o, SVm_b, SVp_f, SVp_o, SVp_b, dOp, dIn_s, dNotin_s, dEq_s, dEq_i, dEq_b, dNe_s, dNe_i, T_len, T_inj, dTT, lcTurn, gN, nbor, onB_bl, nborL, backD, T_subIn, dCall, daCons, daNil, dTup, dLst, dSeq, dIf, dPass, dSet, dDrop, dAsg, dOr, dAnd, dNot, dIfE, dIxV, dFn, dFnB, gT, gsCons, gsNil, kRng1, range_n]
  refine forInv (fun r ρ => ∃ F' o4 o5 o6, ρ = shE s t F' (some x) o4 o5 o6 ∧ F'.length + 3 * r.length ≤ 79 ∧ r.foldl (fun F y => sh3 s t x y F) F' = sh2 s t x F)
    (fun y r ρ hi K hk' _ => ?_) (List.range 3) _ ⟨F, o4, o5, o6, rfl, by simp; omega, rfl⟩ (fun ρ hi => ?_)
  · obtain ⟨F', o4, o5, o6, rfl, hl, hf⟩ := hi
    simp at hl
    have := sh3_len (s := s) (t := t) (x := x) (y := y) F'
    have z := sh_b2 (s := s) (t := t) (x := x) (y := y) (F := F') (o5 := o5) (o6 := o6) (K := K) (by omega) fun o5 o6 => hk' _ ⟨_, _, _, _, rfl, by omega, hf⟩
    cases o4 <;> simpa [startD, endP, outs, dRet, dRetV, dsThen, dM1, dThen, daThen, dC, dLc, dItems, dVar, dVarV, still, D.items, D.isTxt, wipeD, SVd_f, SVd_o, SVd_b, SVm_f, SVm_o, SVm_b, SVp_f, SVp_o, SVp_b, dOp, dIn_s, dNotin_s, dEq_s, dEq_i, dEq_b, dNe_s, dNe_i, T_len, T_inj, dTT, lcTurn, gN, nbor, onB_bl, nborL, backD, T_subIn, dCall, daCons, daNil, dTup, dLst, dSeq, dIf, dPass, dSet, dDrop, dAsg, dOr, dAnd, dNot, dIfE, dIxV, dFn, dFnB, gT, gsCons, gsNil, shE] using z
  · obtain ⟨F', o4, o5, o6, rfl, hl, hf⟩ := hi
    simp at hf
    rw [hf]
    exact hk _ _ _
theorem p__law_shown : ∀ cs ds P, S._law_shown cs ds P → cs.length = 0 ∧ cs.length + ds.length = 2 ∧ r__law_shown (startD N__law_shown cs ds) (endP 0 P) := by
  rintro _ _ P ⟨s, t, rfl, rfl, hp⟩
  refine ⟨rfl, rfl, ?_⟩
  rw [show r__law_shown = (dSeq (dSet 2 (dLst daNil)) (dSeq (dFor rng3 (gN 3) shB3) (dRetV 2))) from rfl]
  simp [N__law_shown, startD, endP, outs, dRet, dRetV, dsThen, dM1, dThen, daThen, dC, dLc, dItems, dVar, dVarV, still, D.items, D.isTxt, wipeD, SVd_f, SVd_o, SVd_b, SVm_f, SVm_o, SVm_b, SVp_f, SVp_o, SVp_b, dOp, dIn_s, dNotin_s, dEq_s, dEq_i, dEq_b, dNe_s, dNe_i, T_len, T_inj, dTT, lcTurn, gN, nbor, onB_bl, nborL, backD, T_subIn, dCall, daCons, daNil, dTup, dLst, dSeq, dIf, dPass, dSet, dDrop, dAsg, dOr, dAnd, dNot, dIfE, dIxV, dFn, dFnB, gT, gsCons, gsNil, dFor, daMap, kRng1, range_n]
  refine forInv (fun r ρ => ∃ F' o3 o4 o5 o6, ρ = shE s t F' o3 o4 o5 o6 ∧ F'.length + 9 * r.length ≤ 27 ∧ r.foldl (fun F x => sh2 s t x F) F' = shown s t)
    (fun y r ρ hi K hk' _ => ?_) (List.range 3) _ ⟨[], none, none, none, none, rfl, by simp, rfl⟩ (fun ρ hi => ?_)
  · obtain ⟨F', o3, o4, o5, o6, rfl, hl, hf⟩ := hi
    simp at hl
    have := sh2_len (s := s) (t := t) (x := y) F'
    have z := sh_b3 (s := s) (t := t) (x := y) (F := F') (o4 := o4) (o5 := o5) (o6 := o6) (K := K) (by omega) fun o4 o5 o6 => hk' _ ⟨_, _, _, _, _, rfl, by omega, hf⟩
    cases o3 <;> simpa [startD, endP, outs, dRet, dRetV, dsThen, dM1, dThen, daThen, dC, dLc, dItems, dVar, dVarV, still, D.items, D.isTxt, wipeD, SVd_f, SVd_o, SVd_b, SVm_f, SVm_o, SVm_b, SVp_f, SVp_o, SVp_b, dOp, dIn_s, dNotin_s, dEq_s, dEq_i, dEq_b, dNe_s, dNe_i, T_len, T_inj, dTT, lcTurn, gN, nbor, onB_bl, nborL, backD, T_subIn, dCall, daCons, daNil, dTup, dLst, dSeq, dIf, dPass, dSet, dDrop, dAsg, dOr, dAnd, dNot, dIfE, dIxV, dFn, dFnB, gT, gsCons, gsNil, shE] using z
  · obtain ⟨F', o3, o4, o5, o6, rfl, hl, hf⟩ := hi
    simp at hf
    rw [hf]
    simpa [startD, endP, outs, dRet, dRetV, dsThen, dM1, dThen, daThen, dC, dLc, dItems, dVar, dVarV, still, D.items, D.isTxt, wipeD, SVd_f, SVd_o, SVd_b, SVm_f, SVm_o, SVm_b, SVp_f, SVp_o, SVp_b, dOp, dIn_s, dNotin_s, dEq_s, dEq_i, dEq_b, dNe_s, dNe_i, T_len, T_inj, dTT, lcTurn, gN, nbor, onB_bl, nborL, backD, T_subIn, dCall, daCons, daNil, dTup, dLst, dSeq, dIf, dPass, dSet, dDrop, dAsg, dOr, dAnd, dNot, dIfE, dIxV, dFn, dFnB, gT, gsCons, gsNil, shE] using hp
end K01

set_option Elab.async false
set_option linter.all false
set_option maxRecDepth 100000
set_option maxHeartbeats 4000000
namespace K01
open PySem PySem.Spec L2 Ow
set_option autoImplicit false
abbrev rowD (r : List Nat) : D := .lst (r.map nI)
abbrev rowsD (rs : List (List Nat)) : D := .lst (rs.map rowD)
def sgns (f a b c d : List Nat) : List (List Nat) := f.map fun x => shown (sgnN a b x) (sgnN c d x)
def fitAt (f : List Nat) (rs : List (List Nat)) (a b : List Nat) (i : Nat) : Bool := decide (sgnN a b (f.getD i 0) ∈ rs.getD i [])
def fitsB (f : List Nat) (rs : List (List Nat)) (a b : List Nat) : Bool := (List.range f.length).all (fitAt f rs a b)
namespace S
def _law_signs : DSp := fun cs ds P => ∃ f a b c d, cs = [] ∧ ds = [tD f, cD [a, b], cD [c, d]] ∧ sm f ∧ P (.ok (.own (rowsD (sgns f a b c d)))) []
def _law_fits : DSp := fun cs ds P => ∃ f rs a b, cs = [] ∧ ds = [tD f, rowsD rs, cD [a, b]] ∧ sm f ∧ rs.length = f.length ∧ P (.ok (.frz (.bl (fitsB f rs a b)))) []
end S
def r__law_signs : DS := (dRet (dLc (dItems (dVar 0)) [3] (gN 3) none (dFn S._law_shown (daCons (dFn S._law_sign_in (daCons (dVar 1) (daCons (dVar 3) daNil))) (daCons (dFn S._law_sign_in (daCons (dVar 2) (daCons (dVar 3) daNil))) daNil)))))
def N__law_signs : List Str := ["fields", "one", "two", "field"]
def r__law_fits : DS := (dSeq (dFor (daMap (daCons (dCall dLen (daCons (dVarV 0) daNil)) daNil) kRng1) (gN 3) (dIf (dOp (dIn true) (dFn S._law_sign_in (daCons (dVar 2) (daCons (dIxV 0 dIx (dVar 3)) daNil))) (dIxV 1 dIx (dVar 3))) (dRet (dC (.bl false))) dPass)) (dRet (dC (.bl true))))
def N__law_fits : List Str := ["fields", "signs", "case", "at"]
theorem p__law_signs : ∀ cs ds P, S._law_signs cs ds P → cs.length = 0 ∧ cs.length + ds.length = 3 ∧ r__law_signs (startD N__law_signs cs ds) (endP 0 P) := by
  rintro _ _ P ⟨f, a, b, c, d, rfl, rfl, h0, hp⟩
  refine ⟨rfl, rfl, ?_⟩
  simp [r__law_signs, N__law_signs, startD, endP, outs, dRet, dRetV, dsThen, dM1, dThen, daThen, dC, dLc, dItems, dVar, dVarV, still, D.items, D.isTxt, wipeD, SVd_f, SVd_o, SVd_b, SVm_f, SVm_o, SVm_b, SVp_f, SVp_o, SVp_b, dOp, dIn_s, dNotin_s, dEq_s, dEq_i, dEq_b, dNe_s, dNe_i, T_len, T_inj, dTT, lcTurn, gN, nbor, onB_bl, nborL, backD, T_subIn, dCall, daCons, daNil, dTup, dLst, dSeq, dIf, dPass, dSet, dDrop, dAsg, dOr, dAnd, dNot, dIfE, dIxV, dFn, dFnB, gT, gsCons, gsNil]
  rw [T_signs]
  refine lcAll (val := fun x => rowD (shown (sgnN a b x) (sgnN c d x))) f [] _ (fun x _ K hk => ?_) (by unfold sizeLine; simp; omega) ?_
  · simp [startD, endP, outs, dRet, dRetV, dsThen, dM1, dThen, daThen, dC, dLc, dItems, dVar, dVarV, still, D.items, D.isTxt, wipeD, SVd_f, SVd_o, SVd_b, SVm_f, SVm_o, SVm_b, SVp_f, SVp_o, SVp_b, dOp, dIn_s, dNotin_s, dEq_s, dEq_i, dEq_b, dNe_s, dNe_i, T_len, T_inj, dTT, lcTurn, gN, nbor, onB_bl, nborL, backD, T_subIn, dCall, daCons, daNil, dTup, dLst, dSeq, dIf, dPass, dSet, dDrop, dAsg, dOr, dAnd, dNot, dIfE, dIxV, dFn, dFnB, gT, gsCons, gsNil, S._law_sign_in] at hk ⊢
    refine ⟨_, _, _, ⟨⟨rfl, rfl⟩, rfl⟩, _, _, _, ⟨⟨rfl, rfl⟩, rfl⟩, ?_⟩
    simp [S._law_shown, startD, endP, outs, dRet, dRetV, dsThen, dM1, dThen, daThen, dC, dLc, dItems, dVar, dVarV, still, D.items, D.isTxt, wipeD, SVd_f, SVd_o, SVd_b, SVm_f, SVm_o, SVm_b, SVp_f, SVp_o, SVp_b, dOp, dIn_s, dNotin_s, dEq_s, dEq_i, dEq_b, dNe_s, dNe_i, T_len, T_inj, dTT, lcTurn, gN, nbor, onB_bl, nborL, backD, T_subIn, dCall, daCons, daNil, dTup, dLst, dSeq, dIf, dPass, dSet, dDrop, dAsg, dOr, dAnd, dNot, dIfE, dIxV, dFn, dFnB, gT, gsCons, gsNil]
    exact ⟨_, _, ⟨rfl, rfl⟩, hk⟩
  · simp [startD, endP, outs, dRet, dRetV, dsThen, dM1, dThen, daThen, dC, dLc, dItems, dVar, dVarV, still, D.items, D.isTxt, wipeD, SVd_f, SVd_o, SVd_b, SVm_f, SVm_o, SVm_b, SVp_f, SVp_o, SVp_b, dOp, dIn_s, dNotin_s, dEq_s, dEq_i, dEq_b, dNe_s, dNe_i, T_len, T_inj, dTT, lcTurn, gN, nbor, onB_bl, nborL, backD, T_subIn, dCall, daCons, daNil, dTup, dLst, dSeq, dIf, dPass, dSet, dDrop, dAsg, dOr, dAnd, dNot, dIfE, dIxV, dFn, dFnB, gT, gsCons, gsNil]
    simp only [rowsD, sgns, List.map_map] at hp
    exact hp
theorem all_foldM {p : Nat → Bool} : ∀ (l : List Nat) (o : Option Nat), (l.foldlM (fun (_ : Option Nat) i => if p i = true then some (some i) else none) o).isSome = l.all p
  | [], o => rfl
  | x :: l, o => by
    rw [List.foldlM_cons, List.all_cons]
    cases e : p x with
    | true =>
      simp
      have := all_foldM (p := p) l (some x)
      simpa using this
    | false => simp
theorem p__law_fits : ∀ cs ds P, S._law_fits cs ds P → cs.length = 0 ∧ cs.length + ds.length = 3 ∧ r__law_fits (startD N__law_fits cs ds) (endP 0 P) := by
  rintro _ _ P ⟨f, rs, a, b, rfl, rfl, h0, h1, hp⟩
  refine ⟨rfl, rfl, ?_⟩
  have ht : ∀ i (hi : i < f.length) (o : Option Nat), ∀ K : SO → Ow.Env → Prop,
      (fitAt f rs a b i = true → K .nx [some (.frz (tD f)), some (.frz (rowsD rs)), some (.frz (cD [a, b])), some (.frz (nI i))]) → (fitAt f rs a b i = false → K (.ret (.frz (.bl false))) [some (.frz (tD f)), some (.frz (rowsD rs)), some (.frz (cD [a, b])), some (.frz (nI i))]) →
      (dIf (dOp (dIn true) (dFn S._law_sign_in (daCons (dVar 2) (daCons (dIxV 0 dIx (dVar 3)) daNil))) (dIxV 1 dIx (dVar 3))) (dRet (dC (.bl false))) dPass) [some (.frz (tD f)), some (.frz (rowsD rs)), some (.frz (cD [a, b])), some (.frz (nI i))] K := by
    intro i hi o K k1 k2
    have hi2 : i < rs.length := by omega
    obtain ⟨c, hc⟩ : ∃ c, f.getD i 0 = c := ⟨_, rfl⟩
    obtain ⟨row, hr⟩ : ∃ r, rs.getD i [] = r := ⟨_, rfl⟩
    have e1 : atI f (i : Int) = some c := by
      rw [← hc]
      simp [atI, ixN, hi]
    have e2 : atI (rs.map rowD) (i : Int) = some (rowD row) := by
      rw [← hr]
      simp [atI, ixN, hi2]
    have ef : fitAt f rs a b i = decide (sgnN a b c ∈ row) := by
      unfold fitAt
      rw [hc, hr]
    rw [ef] at k1 k2
    simp [startD, endP, outs, dRet, dRetV, dsThen, dM1, dThen, daThen, dC, dLc, dItems, dVar, dVarV, still, D.items, D.isTxt, wipeD, SVd_f, SVd_o, SVd_b, SVm_f, SVm_o, SVm_b, SVp_f, SVp_o, SVp_b, dOp, dIn_s, dNotin_s, dEq_s, dEq_i, dEq_b, dNe_s, dNe_i, T_len, T_inj, dTT, lcTurn, gN, nbor, onB_bl, nborL, backD, T_subIn, dCall, daCons, daNil, dTup, dLst, dSeq, dIf, dPass, dSet, dDrop, dAsg, dOr, dAnd, dNot, dIfE, dIxV, dFn, dFnB, gT, gsCons, gsNil, dIx, e1, e2]
    refine ⟨by unfold sizeLine; omega, ?_⟩
    refine ⟨a, b, c, rfl, rfl, ?_⟩
    simp [startD, endP, outs, dRet, dRetV, dsThen, dM1, dThen, daThen, dC, dLc, dItems, dVar, dVarV, still, D.items, D.isTxt, wipeD, SVd_f, SVd_o, SVd_b, SVm_f, SVm_o, SVm_b, SVp_f, SVp_o, SVp_b, dOp, dIn_s, dNotin_s, dEq_s, dEq_i, dEq_b, dNe_s, dNe_i, T_len, T_inj, dTT, lcTurn, gN, nbor, onB_bl, nborL, backD, T_subIn, dCall, daCons, daNil, dTup, dLst, dSeq, dIf, dPass, dSet, dDrop, dAsg, dOr, dAnd, dNot, dIfE, dIxV, dFn, dFnB, gT, gsCons, gsNil, dNotin_n]
    by_cases h : sgnN a b c ∈ row
    · simp [h] at k1 ⊢
      exact k1
    · simp [h] at k2 ⊢
      exact k2
  rw [show r__law_fits = (dSeq (dFor (daMap (daCons (dCall dLen (daCons (dVarV 0) daNil)) daNil) kRng1) (gN 3) (dIf (dOp (dIn true) (dFn S._law_sign_in (daCons (dVar 2) (daCons (dIxV 0 dIx (dVar 3)) daNil))) (dIxV 1 dIx (dVar 3))) (dRet (dC (.bl false))) dPass)) (dRet (dC (.bl true)))) from rfl]
  generalize eb : (dIf (dOp (dIn true) (dFn S._law_sign_in (daCons (dVar 2) (daCons (dIxV 0 dIx (dVar 3)) daNil))) (dIxV 1 dIx (dVar 3))) (dRet (dC (.bl false))) dPass) = body at ht ⊢
  simp [N__law_fits, startD, endP, outs, dRet, dRetV, dsThen, dM1, dThen, daThen, dC, dLc, dItems, dVar, dVarV, still, D.items, D.isTxt, wipeD, SVd_f, SVd_o, SVd_b, SVm_f, SVm_o, SVm_b, SVp_f, SVp_o, SVp_b, dOp, dIn_s, dNotin_s, dEq_s, dEq_i, dEq_b, dNe_s, dNe_i, T_len, T_inj, dTT, lcTurn, gN, nbor, onB_bl, nborL, backD, T_subIn, dCall, daCons, daNil, dTup, dLst, dSeq, dIf, dPass, dSet, dDrop, dAsg, dOr, dAnd, dNot, dIfE, dIxV, dFn, dFnB, gT, gsCons, gsNil, dFor, daMap, kRng1, dLen, range_n]
  refine ⟨by unfold sizeLine; omega, by omega, ?_⟩
  have go : ∀ i (hi : i < f.length) (o : Option Nat) (K : SO → Ow.Env → Prop),
      (fitAt f rs a b i = true → K .nx [some (.frz (tD f)), some (.frz (rowsD rs)), some (.frz (cD [a, b])), some (.frz (nI i))]) → (fitAt f rs a b i = false → K (.ret (.frz (.bl false))) [some (.frz (tD f)), some (.frz (rowsD rs)), some (.frz (cD [a, b])), some (.frz (nI i))]) →
      gN 3 (nI i) [some (.frz (tD f)), some (.frz (rowsD rs)), some (.frz (cD [a, b])), o.map fun n => .frz (nI n)] fun ρ1 => body ρ1 K := by
    intro i hi o K k1 k2
    have z := ht i hi o K k1 k2
    cases o <;> simpa [startD, endP, outs, dRet, dRetV, dsThen, dM1, dThen, daThen, dC, dLc, dItems, dVar, dVarV, still, D.items, D.isTxt, wipeD, SVd_f, SVd_o, SVd_b, SVm_f, SVm_o, SVm_b, SVp_f, SVp_o, SVp_b, dOp, dIn_s, dNotin_s, dEq_s, dEq_i, dEq_b, dNe_s, dNe_i, T_len, T_inj, dTT, lcTurn, gN, nbor, onB_bl, nborL, backD, T_subIn, dCall, daCons, daNil, dTup, dLst, dSeq, dIf, dPass, dSet, dDrop, dAsg, dOr, dAnd, dNot, dIfE, dIxV, dFn, dFnB, gT, gsCons, gsNil] using z
  refine forEnd (α := Option Nat) (fun o => [some (.frz (tD f)), some (.frz (rowsD rs)), some (.frz (cD [a, b])), o.map fun n => .frz (nI n)]) (fun _ i => if fitAt f rs a b i = true then some (some i) else none) (.frz (.bl false)) (fun r _ => ∀ i ∈ r, i < f.length)
    (fun i r o o' hi e => ?_) (fun i r o hi e K hk => ?_) (List.range f.length) none (fun i hi => List.mem_range.mp hi) (fun a' ea _ => ?_) (fun ea ρ => ?_)
  · split at e
    · rename_i h
      cases e
      exact ⟨fun j hj => hi j (List.mem_cons_of_mem _ hj), fun K hk => go i (hi i (by simp)) o K (fun _ => hk) fun z => by rw [h] at z; cases z⟩
    · cases e
  · split at e
    · cases e
    · rename_i h
      exact go i (hi i (by simp)) o K (fun z => absurd z h) fun _ => hk _
  · have e := all_foldM (p := fitAt f rs a b) (List.range f.length) none
    rw [ea] at e
    have e2 : fitsB f rs a b = true := e.symm
    rw [e2] at hp
    exact hp
  · have e := all_foldM (p := fitAt f rs a b) (List.range f.length) none
    rw [ea] at e
    have e2 : fitsB f rs a b = false := e.symm
    rw [e2] at hp
    exact hp
end K01

set_option Elab.async false
set_option linter.all false
set_option maxRecDepth 100000
set_option maxHeartbeats 4000000
namespace K01
open PySem PySem.Spec L2 Ow
set_option autoImplicit false
namespace S
def _law_same_plain : DSp := fun cs ds P => ∃ d, cs = [] ∧ ds = [d, d] ∧ ((∃ z, d = .str z) ∨ ∃ b, d = .bl b) ∧ P (.ok (.frz (.bl true))) []
end S
def r__law_same_plain : DS := (dSeq (dIf (dOr (dOp (dIsN false) (dVar 1) (dC .non)) (dOp (dIsN false) (dVar 0) (dC .non))) (dRet (dAnd (dOp (dIsN false) (dVar 0) (dC .non)) (dOp (dIsN false) (dVar 1) (dC .non)))) dPass) (dSeq (dIf (dOr (dIsi [.bl] (dVarV 0)) (dIsi [.bl] (dVarV 1))) (dRet (dAnd (dIsi [.bl] (dVarV 0)) (dAnd (dIsi [.bl] (dVarV 1)) (dOp dEq (dVar 0) (dVarV 1))))) dPass) (dSeq (dIf (dIsi [.int] (dVarV 1)) (dRet (dAnd (dIsi [.int] (dVarV 0)) (dOp dEq (dVar 0) (dVarV 1)))) dPass) (dRet (dAnd (dIsi [.str] (dVarV 0)) (dAnd (dIsi [.str] (dVarV 1)) (dOp dEq (dVar 0) (dVarV 1))))))))
def N__law_same_plain : List Str := ["x", "y"]
def r__law_same : DS := (dSeq (dSet 2 (dLst (daCons (dTup (daCons (dVar 0) (daCons (dVar 1) daNil))) daNil))) (dSeq (dFor (daMap (daCons (dC (.int 200000)) daNil) kRng1) (gN 3) (dSeq (dIf (dNot (dTru (dVarV 2))) (dRet (dC (.bl true))) dPass) (dSeq (dAsg (dMut 2 xPop daNil) (gT (gsCons (gN 4) (gsCons (gN 5) gsNil)))) (dIf (dIsi [.lst, .tup] (dVarV 5)) (dSeq (dIf (dOr (dOp dNe (dIsi [.lst] (dVarV 4)) (dIsi [.lst] (dVarV 5))) (dOp dNe (dIsi [.tup] (dVarV 4)) (dIsi [.tup] (dVarV 5)))) (dRet (dC (.bl false))) dPass) (dSeq (dIf (dOp dNe (dCall dLen (daCons (dVarV 4) daNil)) (dCall dLen (daCons (dVarV 5) daNil))) (dRet (dC (.bl false))) dPass) (dFor (daMap (daCons (dCall dLen (daCons (dVarV 5) daNil)) daNil) kRng1) (gN 6) (dDrop (dMut 2 xAppend (daCons (dTup (daCons (dIxV 4 dIx (dVar 6)) (daCons (dIxV 5 dIx (dVar 6)) daNil))) daNil)))))) (dIf (dIsi [.dic] (dVarV 5)) (dSeq (dIf (dOr (dNot (dIsi [.dic] (dVarV 4))) (dOp dNe (dCall dLen (daCons (dVarV 4) daNil)) (dCall dLen (daCons (dVarV 5) daNil)))) (dRet (dC (.bl false))) dPass) (dSeq (dDrop (dMut 2 xAppend (daCons (dTup (daCons (dCall dList (daCons (dVarV 4) daNil)) (daCons (dCall dList (daCons (dVarV 5) daNil)) daNil))) daNil))) (dFor (dItems (dVar 5)) (gN 7) (dSeq (dIf (dOp (dIn true) (dVar 7) (dVarV 4)) (dRet (dC (.bl false))) dPass) (dDrop (dMut 2 xAppend (daCons (dTup (daCons (dIxV 4 dIx (dVar 7)) (daCons (dIxV 5 dIx (dVar 7)) daNil))) daNil))))))) (dIf (dNot (dFn S._law_same_plain (daCons (dVar 4) (daCons (dVar 5) daNil)))) (dRet (dC (.bl false))) dPass)))))) (dRet (dC (.bl false)))))
def N__law_same : List Str := ["answer", "due", "waiting", "count", "x", "y", "at", "key"]
theorem p__law_same_plain : ∀ cs ds P, S._law_same_plain cs ds P → cs.length = 0 ∧ cs.length + ds.length = 2 ∧ r__law_same_plain (startD N__law_same_plain cs ds) (endP 0 P) := by
  rintro _ _ P ⟨d, rfl, rfl, h, hp⟩
  refine ⟨rfl, rfl, ?_⟩
  rcases h with ⟨z, rfl⟩ | ⟨b, rfl⟩ <;> simp [r__law_same_plain, N__law_same_plain, startD, endP, outs, dRet, dRetV, dsThen, dM1, dThen, daThen, dC, dLc, dItems, dVar, dVarV, still, D.items, D.isTxt, wipeD, SVd_f, SVd_o, SVd_b, SVm_f, SVm_o, SVm_b, SVp_f, SVp_o, SVp_b, dOp, dIn_s, dNotin_s, dEq_s, dEq_i, dEq_b, dNe_s, dNe_i, T_len, T_inj, dTT, lcTurn, gN, nbor, onB_bl, nborL, backD, T_subIn, dCall, daCons, daNil, dTup, dLst, dSeq, dIf, dPass, dSet, dDrop, dAsg, dOr, dAnd, dNot, dIfE, dIxV, dFn, dFnB, gT, gsCons, gsNil, dIsN, dIsi, D.isaL, D.isa] <;> exact hp
/-- trees of texts and truth values -/
inductive Tr where
  | s (z : Str) | b (x : Bool) | t (l : List Tr)
mutual
def Tr.d : Tr → D
  | .s z => .str z
  | .b x => .bl x
  | .t l => .tup (Tr.ds l)
def Tr.ds : List Tr → List D
  | [] => []
  | x :: l => x.d :: Tr.ds l
end
mutual
def Tr.n : Tr → Nat
  | .s _ => 1
  | .b _ => 1
  | .t l => 1 + Tr.ns l
def Tr.ns : List Tr → Nat
  | [] => 0
  | x :: l => x.n + Tr.ns l
end
theorem Tr.ds_map : ∀ l, Tr.ds l = l.map Tr.d
  | [] => rfl
  | x :: l => by rw [Tr.ds, Tr.ds_map l]; rfl
theorem Tr.ns_app : ∀ a b, Tr.ns (a ++ b) = Tr.ns a + Tr.ns b
  | [], c => by simp [Tr.ns]
  | x :: a, c => by rw [List.cons_append, Tr.ns, Tr.ns, Tr.ns_app a c]; omega
theorem Tr.n_pos (t : Tr) : 1 ≤ t.n := by cases t <;> simp [Tr.n]
theorem Tr.ns_len : ∀ l, l.length ≤ Tr.ns l
  | [] => by simp
  | x :: l => by
    have := Tr.ns_len l
    have := x.n_pos
    simp only [Tr.ns, List.length_cons]
    omega
abbrev prD (t : Tr) : D := .tup [t.d, t.d]
namespace S
def _law_same : DSp := fun cs ds P => ∃ t : Tr, cs = [] ∧ ds = [t.d, t.d] ∧ t.n ≤ 1000 ∧ P (.ok (.frz (.bl true))) []
end S
abbrev smE (d : D) (W : List Tr) (o3 o4 o5 o6 : Option D) : Ow.Env := [some (.frz d), some (.frz d), some (.own (.lst (W.map prD))), o3.map SV.frz, o4.map SV.frz, o5.map SV.frz, o6.map SV.frz, none]
def smA : DS := (dFor (daMap (daCons (dCall dLen (daCons (dVarV 5) daNil)) daNil) kRng1) (gN 6) (dDrop (dMut 2 xAppend (daCons (dTup (daCons (dIxV 4 dIx (dVar 6)) (daCons (dIxV 5 dIx (dVar 6)) daNil))) daNil))))
theorem sm_a {d : D} {W l : List Tr} {o3 o6 : Option D} {K : SO → Ow.Env → Prop} (h1 : Tr.ns W + Tr.ns l ≤ 1000) (hk : ∀ o6, K .nx (smE d (W ++ l) o3 (some (Tr.t l).d) (some (Tr.t l).d) o6)) : smA (smE d W o3 (some (Tr.t l).d) (some (Tr.t l).d) o6) K := by
  unfold smA
  simp [startD, endP, outs, dRet, dRetV, dsThen, dM1, dThen, daThen, dC, dLc, dItems, dVar, dVarV, still, D.items, D.isTxt, wipeD, SVd_f, SVd_o, SVd_b, SVm_f, SVm_o, SVm_b, SVp_f, SVp_o, SVp_b, dOp, dIn_s, dNotin_s, dEq_s, dEq_i, dEq_b, dNe_s, dNe_i, T_len, T_inj, dTT, lcTurn, gN, nbor, onB_bl, nborL, backD, T_subIn, dCall, daCons, daNil, dTup, dLst, dSeq, dIf, dPass, dSet, dDrop, dAsg, dOr, dAnd, dNot, dIfE, dIxV, dFn, dFnB, gT, gsCons, gsNil, dFor, daMap, kRng1, dLen, range_n, smE, Tr.d]
  have hl := Tr.ns_len l
  have hW := Tr.ns_len W
  have el : (Tr.ds l).length = l.length := by rw [Tr.ds_map, List.length_map]
  rw [el]
  refine ⟨by omega, ?_⟩
  refine forInv (fun r ρ => ∃ o6 i, ρ = smE d (W ++ l.take i) o3 (some (Tr.t l).d) (some (Tr.t l).d) o6 ∧ r = List.range' i (l.length - i) ∧ i ≤ l.length) (fun j r ρ hi K hk' _ => ?_) (List.range l.length) _ ⟨o6, 0, by simp [smE, Tr.d], by simp [List.range_eq_range'], by omega⟩ (fun ρ hi => ?_)
  · obtain ⟨o6, i, rfl, hr, hi⟩ := hi
    have hi2 : i < l.length := by
      have := congrArg List.length hr
      simp at this
      omega
    obtain ⟨m, hm⟩ : ∃ m, l.length - i = m + 1 := ⟨l.length - i - 1, by omega⟩
    rw [hm, List.range'_succ] at hr
    injection hr with e1 e2
    subst e1
    have em : m = l.length - (j + 1) := by omega
    have e3 : atI (Tr.ds l) (j : Int) = some (l[j].d) := by
      rw [Tr.ds_map]
      simp [atI, ixN, hi2]
    have z := hk' (smE d (W ++ l.take (j + 1)) o3 (some (Tr.t l).d) (some (Tr.t l).d) (some (nI j))) ⟨_, j + 1, rfl, by rw [e2, em], hi2⟩
    rw [List.take_succ_eq_append_getElem hi2] at z
    have e4 : (W ++ l.take j).length < sizeLine := by
      unfold sizeLine
      simp
      omega
    have e5 : (2 : Nat) ≤ sizeLine := by unfold sizeLine; omega
    have ez : (W ++ (l.take j ++ [l[j]])).map prD = W.map prD ++ ((l.map prD).take j ++ [.tup [l[j].d, l[j].d]]) := by
      rw [List.map_append, List.map_append, List.map_take]
      rfl
    simp only [smE, ez, Tr.d] at z
    cases o6 <;> (
      simp [startD, endP, outs, dRet, dRetV, dsThen, dM1, dThen, daThen, dC, dLc, dItems, dVar, dVarV, still, D.items, D.isTxt, wipeD, SVd_f, SVd_o, SVd_b, SVm_f, SVm_o, SVm_b, SVp_f, SVp_o, SVp_b, dOp, dIn_s, dNotin_s, dEq_s, dEq_i, dEq_b, dNe_s, dNe_i, T_len, T_inj, dTT, lcTurn, gN, nbor, onB_bl, nborL, backD, T_subIn, dCall, daCons, daNil, dTup, dLst, dSeq, dIf, dPass, dSet, dDrop, dAsg, dOr, dAnd, dNot, dIfE, dIxV, dFn, dFnB, gT, gsCons, gsNil, smE, Tr.d, dMut, dIx, e3, xAppend, e5] at e4 ⊢
      exact ⟨e4, z⟩)
  · obtain ⟨o6, i, rfl, hr, hi⟩ := hi
    have : i = l.length := by
      have := congrArg List.length hr
      simp at this
      omega
    subst this
    simp
    exact hk _
def smB : DS := (dSeq (dIf (dOr (dNot (dIsi [.dic] (dVarV 4))) (dOp dNe (dCall dLen (daCons (dVarV 4) daNil)) (dCall dLen (daCons (dVarV 5) daNil)))) (dRet (dC (.bl false))) dPass) (dSeq (dDrop (dMut 2 xAppend (daCons (dTup (daCons (dCall dList (daCons (dVarV 4) daNil)) (daCons (dCall dList (daCons (dVarV 5) daNil)) daNil))) daNil))) (dFor (dItems (dVar 5)) (gN 7) (dSeq (dIf (dOp (dIn true) (dVar 7) (dVarV 4)) (dRet (dC (.bl false))) dPass) (dDrop (dMut 2 xAppend (daCons (dTup (daCons (dIxV 4 dIx (dVar 7)) (daCons (dIxV 5 dIx (dVar 7)) daNil))) daNil)))))))
def smT : DS := (dSeq (dIf (dNot (dTru (dVarV 2))) (dRet (dC (.bl true))) dPass) (dSeq (dAsg (dMut 2 xPop daNil) (gT (gsCons (gN 4) (gsCons (gN 5) gsNil)))) (dIf (dIsi [.lst, .tup] (dVarV 5)) (dSeq (dIf (dOr (dOp dNe (dIsi [.lst] (dVarV 4)) (dIsi [.lst] (dVarV 5))) (dOp dNe (dIsi [.tup] (dVarV 4)) (dIsi [.tup] (dVarV 5)))) (dRet (dC (.bl false))) dPass) (dSeq (dIf (dOp dNe (dCall dLen (daCons (dVarV 4) daNil)) (dCall dLen (daCons (dVarV 5) daNil))) (dRet (dC (.bl false))) dPass) smA)) (dIf (dIsi [.dic] (dVarV 5)) smB (dIf (dNot (dFn S._law_same_plain (daCons (dVar 4) (daCons (dVar 5) daNil)))) (dRet (dC (.bl false))) dPass)))))
theorem same_eq : r__law_same = (dSeq (dSet 2 (dLst (daCons (dTup (daCons (dVar 0) (daCons (dVar 1) daNil))) daNil))) (dSeq (dFor (daMap (daCons (dC (.int 200000)) daNil) kRng1) (gN 3) smT) (dRet (dC (.bl false))))) := rfl
theorem sm_t {d : D} {W : List Tr} {o3 o4 o5 o6 : Option D} {K : SO → Ow.Env → Prop} (h1 : Tr.ns W ≤ 1000) (h0 : W = [] → ∀ ρ, K (.ret (.frz (.bl true))) ρ) (hk : ∀ W' o4 o5 o6, Tr.ns W' + 1 ≤ Tr.ns W → K .nx (smE d W' o3 o4 o5 o6)) : smT (smE d W o3 o4 o5 o6) K := by
  cases e : W.reverse with
  | nil =>
    have : W = [] := by simpa using e
    subst this
    simp [smT, startD, endP, outs, dRet, dRetV, dsThen, dM1, dThen, daThen, dC, dLc, dItems, dVar, dVarV, still, D.items, D.isTxt, wipeD, SVd_f, SVd_o, SVd_b, SVm_f, SVm_o, SVm_b, SVp_f, SVp_o, SVp_b, dOp, dIn_s, dNotin_s, dEq_s, dEq_i, dEq_b, dNe_s, dNe_i, T_len, T_inj, dTT, lcTurn, gN, nbor, onB_bl, nborL, backD, T_subIn, dCall, daCons, daNil, dTup, dLst, dSeq, dIf, dPass, dSet, dDrop, dAsg, dOr, dAnd, dNot, dIfE, dIxV, dFn, dFnB, gT, gsCons, gsNil, smE, dTru, D.tru]
    exact h0 rfl _
  | cons x r =>
    have eW : W = r.reverse ++ [x] := by rw [← List.reverse_reverse W, e]; simp
    subst eW
    have hn := Tr.ns_app r.reverse [x]
    simp [Tr.ns] at hn
    generalize r.reverse = W2 at *
    have hW := Tr.ns_len W2
    cases x with
    | s z =>
      have z1 := hk W2 (some (.str z)) (some (.str z)) o6 (by simp [Tr.n] at hn; omega)
      cases o4 <;> cases o5 <;> (
        simp [smT, startD, endP, outs, dRet, dRetV, dsThen, dM1, dThen, daThen, dC, dLc, dItems, dVar, dVarV, still, D.items, D.isTxt, wipeD, SVd_f, SVd_o, SVd_b, SVm_f, SVm_o, SVm_b, SVp_f, SVp_o, SVp_b, dOp, dIn_s, dNotin_s, dEq_s, dEq_i, dEq_b, dNe_s, dNe_i, T_len, T_inj, dTT, lcTurn, gN, nbor, onB_bl, nborL, backD, T_subIn, dCall, daCons, daNil, dTup, dLst, dSeq, dIf, dPass, dSet, dDrop, dAsg, dOr, dAnd, dNot, dIfE, dIxV, dFn, dFnB, gT, gsCons, gsNil, smE, dTru, D.tru, dMut, xPop, Tr.d, dIsi, D.isaL, D.isa]
        refine ⟨_, rfl, rfl, Or.inl ⟨_, rfl⟩, ?_⟩
        simp [startD, endP, outs, dRet, dRetV, dsThen, dM1, dThen, daThen, dC, dLc, dItems, dVar, dVarV, still, D.items, D.isTxt, wipeD, SVd_f, SVd_o, SVd_b, SVm_f, SVm_o, SVm_b, SVp_f, SVp_o, SVp_b, dOp, dIn_s, dNotin_s, dEq_s, dEq_i, dEq_b, dNe_s, dNe_i, T_len, T_inj, dTT, lcTurn, gN, nbor, onB_bl, nborL, backD, T_subIn, dCall, daCons, daNil, dTup, dLst, dSeq, dIf, dPass, dSet, dDrop, dAsg, dOr, dAnd, dNot, dIfE, dIxV, dFn, dFnB, gT, gsCons, gsNil]
        exact z1)
    | b z =>
      have z1 := hk W2 (some (.bl z)) (some (.bl z)) o6 (by simp [Tr.n] at hn; omega)
      cases o4 <;> cases o5 <;> (
        simp [smT, startD, endP, outs, dRet, dRetV, dsThen, dM1, dThen, daThen, dC, dLc, dItems, dVar, dVarV, still, D.items, D.isTxt, wipeD, SVd_f, SVd_o, SVd_b, SVm_f, SVm_o, SVm_b, SVp_f, SVp_o, SVp_b, dOp, dIn_s, dNotin_s, dEq_s, dEq_i, dEq_b, dNe_s, dNe_i, T_len, T_inj, dTT, lcTurn, gN, nbor, onB_bl, nborL, backD, T_subIn, dCall, daCons, daNil, dTup, dLst, dSeq, dIf, dPass, dSet, dDrop, dAsg, dOr, dAnd, dNot, dIfE, dIxV, dFn, dFnB, gT, gsCons, gsNil, smE, dTru, D.tru, dMut, xPop, Tr.d, dIsi, D.isaL, D.isa]
        refine ⟨_, rfl, rfl, Or.inr ⟨_, rfl⟩, ?_⟩
        simp [startD, endP, outs, dRet, dRetV, dsThen, dM1, dThen, daThen, dC, dLc, dItems, dVar, dVarV, still, D.items, D.isTxt, wipeD, SVd_f, SVd_o, SVd_b, SVm_f, SVm_o, SVm_b, SVp_f, SVp_o, SVp_b, dOp, dIn_s, dNotin_s, dEq_s, dEq_i, dEq_b, dNe_s, dNe_i, T_len, T_inj, dTT, lcTurn, gN, nbor, onB_bl, nborL, backD, T_subIn, dCall, daCons, daNil, dTup, dLst, dSeq, dIf, dPass, dSet, dDrop, dAsg, dOr, dAnd, dNot, dIfE, dIxV, dFn, dFnB, gT, gsCons, gsNil]
        exact z1)
    | t l =>
      simp [Tr.n] at hn
      have z1 := sm_a (d := d) (W := W2) (l := l) (o3 := o3) (o6 := o6) (K := K) (by omega) fun o6 => hk (W2 ++ l) _ _ o6 (by rw [Tr.ns_app]; omega)
      cases o4 <;> cases o5 <;> (
        simp [smT, startD, endP, outs, dRet, dRetV, dsThen, dM1, dThen, daThen, dC, dLc, dItems, dVar, dVarV, still, D.items, D.isTxt, wipeD, SVd_f, SVd_o, SVd_b, SVm_f, SVm_o, SVm_b, SVp_f, SVp_o, SVp_b, dOp, dIn_s, dNotin_s, dEq_s, dEq_i, dEq_b, dNe_s, dNe_i, T_len, T_inj, dTT, lcTurn, gN, nbor, onB_bl, nborL, backD, T_subIn, dCall, daCons, daNil, dTup, dLst, dSeq, dIf, dPass, dSet, dDrop, dAsg, dOr, dAnd, dNot, dIfE, dIxV, dFn, dFnB, gT, gsCons, gsNil, smE, dTru, D.tru, dMut, xPop, Tr.d, dIsi, D.isaL, D.isa, dLen]
        exact z1)
end K01

set_option Elab.async false
set_option linter.all false
set_option maxRecDepth 100000
set_option maxHeartbeats 4000000
namespace K01
open PySem PySem.Spec L2 Ow
set_option autoImplicit false
theorem p__law_same : ∀ cs ds P, S._law_same cs ds P → cs.length = 0 ∧ cs.length + ds.length = 2 ∧ r__law_same (startD N__law_same cs ds) (endP 0 P) := by
  rintro _ _ P ⟨t, rfl, rfl, h1, hp⟩
  refine ⟨rfl, rfl, ?_⟩
  rw [same_eq]
  simp [N__law_same, startD, endP, outs, dRet, dRetV, dsThen, dM1, dThen, daThen, dC, dLc, dItems, dVar, dVarV, still, D.items, D.isTxt, wipeD, SVd_f, SVd_o, SVd_b, SVm_f, SVm_o, SVm_b, SVp_f, SVp_o, SVp_b, dOp, dIn_s, dNotin_s, dEq_s, dEq_i, dEq_b, dNe_s, dNe_i, T_len, T_inj, dTT, lcTurn, gN, nbor, onB_bl, nborL, backD, T_subIn, dCall, daCons, daNil, dTup, dLst, dSeq, dIf, dPass, dSet, dDrop, dAsg, dOr, dAnd, dNot, dIfE, dIxV, dFn, dFnB, gT, gsCons, gsNil, dFor, daMap, kRng1, range_n]
  refine ⟨by unfold sizeLine; omega, by unfold sizeLine; omega, ?_⟩
  generalize hN : (200000 : Nat) = N
  refine forInv (fun r ρ => ∃ W o3 o4 o5 o6, ρ = smE t.d W o3 o4 o5 o6 ∧ Tr.ns W ≤ 1000 ∧ Tr.ns W < r.length) (fun i r ρ hi K hk' hr => ?_) (List.range N) _ ⟨[t], none, none, none, none, by simp [smE], by simp [Tr.ns]; omega, by simp [Tr.ns]; omega⟩ (fun ρ hi => ?_)
  · obtain ⟨W, o3, o4, o5, o6, rfl, hl, hf⟩ := hi
    simp at hf
    have z := sm_t (d := t.d) (W := W) (o3 := some (nI i)) (o4 := o4) (o5 := o5) (o6 := o6) (K := K) hl (fun _ ρ => hr _ _ hp) fun W' o4 o5 o6 hw => hk' _ ⟨W', _, _, _, _, rfl, by omega, by omega⟩
    cases o3 <;> simpa [startD, endP, outs, dRet, dRetV, dsThen, dM1, dThen, daThen, dC, dLc, dItems, dVar, dVarV, still, D.items, D.isTxt, wipeD, SVd_f, SVd_o, SVd_b, SVm_f, SVm_o, SVm_b, SVp_f, SVp_o, SVp_b, dOp, dIn_s, dNotin_s, dEq_s, dEq_i, dEq_b, dNe_s, dNe_i, T_len, T_inj, dTT, lcTurn, gN, nbor, onB_bl, nborL, backD, T_subIn, dCall, daCons, daNil, dTup, dLst, dSeq, dIf, dPass, dSet, dDrop, dAsg, dOr, dAnd, dNot, dIfE, dIxV, dFn, dFnB, gT, gsCons, gsNil, smE] using z
  · obtain ⟨W, o3, o4, o5, o6, rfl, hl, hf⟩ := hi
    simp at hf
end K01

set_option Elab.async false
set_option linter.all false
set_option maxRecDepth 100000
set_option maxHeartbeats 4000000
namespace K01
open PySem PySem.Spec L2 Ow
set_option autoImplicit false
def prodL (rs : List (List Nat)) : Nat := (rs.map List.length).foldr (· * ·) 1
/-- a case that a meeting may be -/
abbrev metC (f : List Nat) (rs : List (List Nat)) (p : List Nat × List Nat) : Prop := cut f p.1 = p.1 ∧ cut f p.2 = p.2 ∧ cut p.1 p.2 = [] ∧ fitsB f rs p.1 p.2 = true ∧ six p.1 ∧ six p.2 ∧ sm p.1 ∧ sm p.2
namespace S
def _law_all_met : DSp := fun cs ds P => ∃ (f : List Nat) (rs : List (List Nat)) (L : List (List Nat × List Nat)), cs = [] ∧ ds = [tD f, rowsD rs, .lst (L.map pD)] ∧ sm f ∧ rs.length = f.length ∧ L.length = prodL rs ∧ 0 < L.length ∧ L.length ≤ 1000000 ∧ (∀ p ∈ L, metC f rs p) ∧ L.Pairwise (fun p q => ltC p q = true) ∧ P (.ok (.frz (.bl true))) []
end S
def r__law_all_met : DS := (dSeq (dSet 3 (dC (.int 1))) (dSeq (dFor (dItems (dVar 1)) (gN 4) (dSet 3 (dOp dMul2 (dVar 3) (dCall dLen (daCons (dVarV 4) daNil))))) (dSeq (dIf (dOr (dNot (dIsi [.lst] (dVarV 2))) (dOp dNe (dCall dLen (daCons (dVarV 2) daNil)) (dVarV 3))) (dRet (dC (.bl false))) dPass) (dSeq (dSet 5 (dTup daNil)) (dSeq (dFor (dItems (dVar 2)) (gN 6) (dSeq (dIf (dOr (dNot (dFn S._law_is_case (daCons (dVar 0) (daCons (dVar 6) daNil)))) (dNot (dFn S._law_fits (daCons (dVar 0) (daCons (dVar 1) (daCons (dVar 6) daNil)))))) (dRet (dC (.bl false))) dPass) (dSeq (dIf (dAnd (dOp dNe (dVar 5) (dTup daNil)) (dOp dLeD (dFn S._law_case_key (daCons (dVar 6) daNil)) (dFn S._law_case_key (daCons (dVar 5) daNil)))) (dRet (dC (.bl false))) dPass) (dSet 5 (dVar 6))))) (dRet (dC (.bl true))))))))
def N__law_all_met : List Str := ["fields", "signs", "answer", "many", "row", "last", "case"]
def amT : DS := (dSeq (dIf (dOr (dNot (dFn S._law_is_case (daCons (dVar 0) (daCons (dVar 6) daNil)))) (dNot (dFn S._law_fits (daCons (dVar 0) (daCons (dVar 1) (daCons (dVar 6) daNil)))))) (dRet (dC (.bl false))) dPass) (dSeq (dIf (dAnd (dOp dNe (dVar 5) (dTup daNil)) (dOp dLeD (dFn S._law_case_key (daCons (dVar 6) daNil)) (dFn S._law_case_key (daCons (dVar 5) daNil)))) (dRet (dC (.bl false))) dPass) (dSet 5 (dVar 6))))
def amM : DS := (dSet 3 (dOp dMul2 (dVar 3) (dCall dLen (daCons (dVarV 4) daNil))))
theorem am_eq : r__law_all_met = (dSeq (dSet 3 (dC (.int 1))) (dSeq (dFor (dItems (dVar 1)) (gN 4) amM) (dSeq (dIf (dOr (dNot (dIsi [.lst] (dVarV 2))) (dOp dNe (dCall dLen (daCons (dVarV 2) daNil)) (dVarV 3))) (dRet (dC (.bl false))) dPass) (dSeq (dSet 5 (dTup daNil)) (dSeq (dFor (dItems (dVar 2)) (gN 6) amT) (dRet (dC (.bl true)))))))) := rfl
theorem ne_nil {P : SV → Prop} : dNe (.tup []) (.tup []) P = P (.frz (.bl false)) := by
  unfold dNe
  simp [D.scal, D.pur, purL, D.py, pyL, SeqAt.shaped, PyData.canLay0, PyData.canLayAll0, PyData.depth, PyData.depthAll, PyData.eqv, PyData.eqvAll]
theorem ne_c {a b : List Nat} {P : SV → Prop} (ha : six a) (hb : six b) : dNe (.tup [.str (T a), .str (T b)]) (.tup []) P = P (.frz (.bl true)) := by
  unfold dNe
  simp [six_ok ha, six_ok hb, D.scal, D.pur, purL, D.py, pyL, SeqAt.shaped, PyData.canLay0, PyData.canLayAll0, PyData.depth, PyData.depthAll, PyData.eqv, PyData.eqvAll]
theorem ne_pD {q : List Nat × List Nat} {P : SV → Prop} (ha : six q.1) (hb : six q.2) : dNe (pD q) (.tup []) P = P (.frz (.bl true)) := ne_c ha hb
def lastD : Option (List Nat × List Nat) → D
  | none => .tup []
  | some q => pD q
theorem am_t {f : List Nat} {rs : List (List Nat)} {d2 d3 : D} {o4 : Option D} {last : Option (List Nat × List Nat)} {o6 : Option D} {p : List Nat × List Nat} {K : SO → Ow.Env → Prop} (hf : sm f) (hr : rs.length = f.length) (hp : metC f rs p) (hl : ∀ q, last = some q → ltC q p = true ∧ six q.1 ∧ six q.2 ∧ sm q.1 ∧ sm q.2)
    (hk : K .nx [some (.frz (tD f)), some (.frz (rowsD rs)), some (.frz d2), some (.frz d3), o4.map SV.frz, some (.frz (pD p)), some (.frz (pD p))]) :
    amT [some (.frz (tD f)), some (.frz (rowsD rs)), some (.frz d2), some (.frz d3), o4.map SV.frz, some (.frz (lastD last)), some (.frz (pD p))] K := by
  obtain ⟨p1, p2, p3, p4, p5, p6, p7, p8⟩ := hp
  simp [amT, startD, endP, outs, dRet, dRetV, dsThen, dM1, dThen, daThen, dC, dLc, dItems, dVar, dVarV, still, D.items, D.isTxt, wipeD, SVd_f, SVd_o, SVd_b, SVm_f, SVm_o, SVm_b, SVp_f, SVp_o, SVp_b, dOp, dIn_s, dNotin_s, dEq_s, dEq_i, dEq_b, dNe_s, dNe_i, T_len, T_inj, dTT, lcTurn, gN, nbor, onB_bl, nborL, backD, T_subIn, dCall, daCons, daNil, dTup, dLst, dSeq, dIf, dPass, dSet, dDrop, dAsg, dOr, dAnd, dNot, dIfE, dIxV, dFn, dFnB, gT, gsCons, gsNil]
  refine ⟨_, _, _, rfl, rfl, hf, p7, p8, ?_⟩
  simp [p1, p2, p3, startD, endP, outs, dRet, dRetV, dsThen, dM1, dThen, daThen, dC, dLc, dItems, dVar, dVarV, still, D.items, D.isTxt, wipeD, SVd_f, SVd_o, SVd_b, SVm_f, SVm_o, SVm_b, SVp_f, SVp_o, SVp_b, dOp, dIn_s, dNotin_s, dEq_s, dEq_i, dEq_b, dNe_s, dNe_i, T_len, T_inj, dTT, lcTurn, gN, nbor, onB_bl, nborL, backD, T_subIn, dCall, daCons, daNil, dTup, dLst, dSeq, dIf, dPass, dSet, dDrop, dAsg, dOr, dAnd, dNot, dIfE, dIxV, dFn, dFnB, gT, gsCons, gsNil]
  refine ⟨_, _, _, _, rfl, rfl, hf, hr, ?_⟩
  simp [p4, startD, endP, outs, dRet, dRetV, dsThen, dM1, dThen, daThen, dC, dLc, dItems, dVar, dVarV, still, D.items, D.isTxt, wipeD, SVd_f, SVd_o, SVd_b, SVm_f, SVm_o, SVm_b, SVp_f, SVp_o, SVp_b, dOp, dIn_s, dNotin_s, dEq_s, dEq_i, dEq_b, dNe_s, dNe_i, T_len, T_inj, dTT, lcTurn, gN, nbor, onB_bl, nborL, backD, T_subIn, dCall, daCons, daNil, dTup, dLst, dSeq, dIf, dPass, dSet, dDrop, dAsg, dOr, dAnd, dNot, dIfE, dIxV, dFn, dFnB, gT, gsCons, gsNil]
  cases last with
  | none =>
    simp [lastD, ne_nil, startD, endP, outs, dRet, dRetV, dsThen, dM1, dThen, daThen, dC, dLc, dItems, dVar, dVarV, still, D.items, D.isTxt, wipeD, SVd_f, SVd_o, SVd_b, SVm_f, SVm_o, SVm_b, SVp_f, SVp_o, SVp_b, dOp, dIn_s, dNotin_s, dEq_s, dEq_i, dEq_b, dNe_s, dNe_i, T_len, T_inj, dTT, lcTurn, gN, nbor, onB_bl, nborL, backD, T_subIn, dCall, daCons, daNil, dTup, dLst, dSeq, dIf, dPass, dSet, dDrop, dAsg, dOr, dAnd, dNot, dIfE, dIxV, dFn, dFnB, gT, gsCons, gsNil]
    exact hk
  | some q =>
    obtain ⟨h1, h2, h3, h4, h5⟩ := hl q rfl
    simp only [lastD, ne_pD h2 h3, onB_bl, SVd_f, if_true]
    refine ⟨_, _, rfl, rfl, p7, p8, ?_⟩
    refine ⟨_, _, rfl, rfl, h4, h5, ?_⟩
    have hc : CmpD (ckK (pD p)) (ckK (pD q)) := by
      rw [ckK_D, ckK_D]
      simp [CmpD, D.pur, purL, D.py, pyL, PySem.W.alike, PySem.W.alikeAll, PyData.depth, PyData.depthAll]
    rw [ckK_D, ckK_D] at hc
    have hd : PySem.W.dataLt (ckK (pD q)).py (ckK (pD p)).py = true := h1
    rw [ckK_D, ckK_D] at hd
    exact ⟨hc, by simp only [SVd_f]; rw [hd]; exact hk⟩
theorem prodL_cons (r : List Nat) (rs : List (List Nat)) : prodL (r :: rs) = r.length * prodL rs := rfl
theorem p__law_all_met : ∀ cs ds P, S._law_all_met cs ds P → cs.length = 0 ∧ cs.length + ds.length = 3 ∧ r__law_all_met (startD N__law_all_met cs ds) (endP 0 P) := by
  rintro _ _ P ⟨f, rs, L, rfl, rfl, hf, hr, hL, h0, h1, hm, hp, hP⟩
  refine ⟨rfl, rfl, ?_⟩
  rw [am_eq]
  simp [N__law_all_met, startD, endP, outs, dRet, dRetV, dsThen, dM1, dThen, daThen, dC, dLc, dItems, dVar, dVarV, still, D.items, D.isTxt, wipeD, SVd_f, SVd_o, SVd_b, SVm_f, SVm_o, SVm_b, SVp_f, SVp_o, SVp_b, dOp, dIn_s, dNotin_s, dEq_s, dEq_i, dEq_b, dNe_s, dNe_i, T_len, T_inj, dTT, lcTurn, gN, nbor, onB_bl, nborL, backD, T_subIn, dCall, daCons, daNil, dTup, dLst, dSeq, dIf, dPass, dSet, dDrop, dAsg, dOr, dAnd, dNot, dIfE, dIxV, dFn, dFnB, gT, gsCons, gsNil, dFor]
  refine forInv (fun r ρ => ∃ m o4, ρ = [some (.frz (tD f)), some (.frz (rowsD rs)), some (.frz (.lst (L.map pD))), some (.frz (nI m)), o4.map SV.frz, none, none] ∧ m * prodL r = L.length) (fun row r ρ hi K hk' hx => ?_) rs _ ⟨1, none, rfl, by rw [hL]; omega⟩ (fun ρ hi => ?_)
  · clear hx
    obtain ⟨m, o4, rfl, hi⟩ := hi
    rw [prodL_cons, ← Nat.mul_assoc] at hi
    have z := hk' _ ⟨m * row.length, some (rowD row), rfl, hi⟩
    have hpos : m * row.length ≤ 1000000 := by
      refine Nat.le_trans (Nat.le_mul_of_pos_right _ ?_) (Nat.le_trans (Nat.le_of_eq hi) h1)
      rcases Nat.eq_zero_or_pos (prodL r) with e | e
      · rw [e] at hi
        omega
      · exact e
    have hm0 : m ≠ 0 := by
      rintro rfl
      simp at hi
      omega
    have hr0 : row.length ≠ 0 := by
      intro e
      rw [e] at hi
      simp at hi
      omega
    have m1 : m ≤ 1000000 := Nat.le_trans (Nat.le_mul_of_pos_right _ (by omega)) hpos
    have m2 : row.length ≤ 1000000 := Nat.le_trans (Nat.le_mul_of_pos_left _ (by omega)) hpos
    have l1 : m.log2 < 20 := (Nat.log2_lt hm0).mpr (by omega)
    have l2 : row.length.log2 < 20 := (Nat.log2_lt hr0).mpr (by omega)
    have ez : nI (m * row.length) = .int ((m : Int) * row.length) := by simp [nI]
    rw [ez] at z
    cases o4 <;> (
      simp [amM, startD, endP, outs, dRet, dRetV, dsThen, dM1, dThen, daThen, dC, dLc, dItems, dVar, dVarV, still, D.items, D.isTxt, wipeD, SVd_f, SVd_o, SVd_b, SVm_f, SVm_o, SVm_b, SVp_f, SVp_o, SVp_b, dOp, dIn_s, dNotin_s, dEq_s, dEq_i, dEq_b, dNe_s, dNe_i, T_len, T_inj, dTT, lcTurn, gN, nbor, onB_bl, nborL, backD, T_subIn, dCall, daCons, daNil, dTup, dLst, dSeq, dIf, dPass, dSet, dDrop, dAsg, dOr, dAnd, dNot, dIfE, dIxV, dFn, dFnB, gT, gsCons, gsNil, dLen, dMul2, dMul] at ⊢
      exact ⟨by omega, z⟩)
  · obtain ⟨m, o4, rfl, hi⟩ := hi
    have em : m = L.length := by simpa [prodL] using hi
    subst em
    simp [startD, endP, outs, dRet, dRetV, dsThen, dM1, dThen, daThen, dC, dLc, dItems, dVar, dVarV, still, D.items, D.isTxt, wipeD, SVd_f, SVd_o, SVd_b, SVm_f, SVm_o, SVm_b, SVp_f, SVp_o, SVp_b, dOp, dIn_s, dNotin_s, dEq_s, dEq_i, dEq_b, dNe_s, dNe_i, T_len, T_inj, dTT, lcTurn, gN, nbor, onB_bl, nborL, backD, T_subIn, dCall, daCons, daNil, dTup, dLst, dSeq, dIf, dPass, dSet, dDrop, dAsg, dOr, dAnd, dNot, dIfE, dIxV, dFn, dFnB, gT, gsCons, gsNil, dIsi, D.isaL, D.isa, dLen]
    refine forInv (fun r ρ => ∃ last o6, ρ = [some (.frz (tD f)), some (.frz (rowsD rs)), some (.frz (.lst (L.map pD))), some (.frz (nI L.length)), o4.map SV.frz, some (.frz (lastD last)), o6.map SV.frz] ∧
      (∀ p ∈ r, metC f rs p) ∧ r.Pairwise (fun p q => ltC p q = true) ∧ ∀ q : List Nat × List Nat, last = some q → (∀ p ∈ r, ltC q p = true) ∧ six q.1 ∧ six q.2 ∧ sm q.1 ∧ sm q.2) (fun p r ρ hi K hk' _ => ?_) L _ ⟨none, none, rfl, hm, hp, fun q e => by cases e⟩ (fun ρ hi => ?_)
    · obtain ⟨last, o6, rfl, i1, i2, i3⟩ := hi
      have hmp := i1 p (by simp)
      have pw := List.pairwise_cons.mp i2
      have z := am_t (d2 := .lst (L.map pD)) (d3 := nI L.length) (o4 := o4) (last := last) (o6 := none) (K := K) hf hr hmp (fun q e => ⟨(i3 q e).1 p (by simp), (i3 q e).2⟩) (hk' _ ⟨some p, some (pD p), rfl, fun x hx => i1 x (List.mem_cons_of_mem _ hx), pw.2, fun q e => by
        cases e
        exact ⟨pw.1, hmp.2.2.2.2⟩⟩)
      cases o6 <;> simpa [startD, endP, outs, dRet, dRetV, dsThen, dM1, dThen, daThen, dC, dLc, dItems, dVar, dVarV, still, D.items, D.isTxt, wipeD, SVd_f, SVd_o, SVd_b, SVm_f, SVm_o, SVm_b, SVp_f, SVp_o, SVp_b, dOp, dIn_s, dNotin_s, dEq_s, dEq_i, dEq_b, dNe_s, dNe_i, T_len, T_inj, dTT, lcTurn, gN, nbor, onB_bl, nborL, backD, T_subIn, dCall, daCons, daNil, dTup, dLst, dSeq, dIf, dPass, dSet, dDrop, dAsg, dOr, dAnd, dNot, dIfE, dIxV, dFn, dFnB, gT, gsCons, gsNil] using z
    · exact hP
end K01

set_option Elab.async false
set_option linter.all false
set_option maxRecDepth 100000
set_option maxHeartbeats 4000000
/-! the plain law: what the meetings are -/
namespace K01
open PySem PySem.Spec L2 Ow
set_option autoImplicit false
/-- the table of the shown signs -/
theorem shown_tab : ∀ s, s < 3 → ∀ t, t < 3 → ∀ r, r < 3 → ((r ∈ shown s t) ↔ ((s = 1 ∧ t = 2) ∨ (s = 2 ∧ t = 1)) ∨ (r = (if s = 0 then t else s) ∧ ¬ ((s = 1 ∧ t = 2) ∨ (s = 2 ∧ t = 1)))) := by
  intro s hs t ht r hr
  have h1 : s = 0 ∨ s = 1 ∨ s = 2 := by omega
  have h2 : t = 0 ∨ t = 1 ∨ t = 2 := by omega
  have h3 : r = 0 ∨ r = 1 ∨ r = 2 := by omega
  rcases h1 with rfl | rfl | rfl <;> rcases h2 with rfl | rfl | rfl <;> rcases h3 with rfl | rfl | rfl <;> decide
theorem shown_len : ∀ s, s < 3 → ∀ t, t < 3 → (shown s t).length = if (s = 1 ∧ t = 2) ∨ (s = 2 ∧ t = 1) then 3 else 1 := by
  intro s hs t ht
  have h1 : s = 0 ∨ s = 1 ∨ s = 2 := by omega
  have h2 : t = 0 ∨ t = 1 ∨ t = 2 := by omega
  rcases h1 with rfl | rfl | rfl <;> rcases h2 with rfl | rfl | rfl <;> decide
theorem sgn_lt (a b : List Nat) (c : Nat) : sgnN a b c < 3 := by
  unfold sgnN
  split
  · omega
  · split <;> omega
/-- the fields where the two are against each other -/
def opp (a b c d : List Nat) (x : Nat) : Prop := (x ∈ a ∧ x ∈ d) ∨ (x ∈ b ∧ x ∈ c)
theorem mem_unl {a b c d : List Nat} {x : Nat} : x ∈ unl a b c d ↔ x ∈ FL ∧ opp a b c d x := by
  unfold unl opp
  rw [mem_join, mem_cut, mem_cut]
theorem sgn_eq {a b : List Nat} (h : ∀ x ∈ a, x ∉ b) (x : Nat) : (sgnN a b x = 1 ↔ x ∈ a) ∧ (sgnN a b x = 2 ↔ x ∈ b) ∧ (sgnN a b x = 0 ↔ x ∉ a ∧ x ∉ b) := by
  unfold sgnN
  by_cases h1 : x ∈ a
  · have := h x h1
    simp [h1, this]
  · by_cases h2 : x ∈ b <;> simp [h1, h2]
theorem sgn_opp {a b c d : List Nat} (h1 : ∀ x ∈ a, x ∉ b) (h2 : ∀ x ∈ c, x ∉ d) (x : Nat) : ((sgnN a b x = 1 ∧ sgnN c d x = 2) ∨ (sgnN a b x = 2 ∧ sgnN c d x = 1)) ↔ opp a b c d x := by
  rw [(sgn_eq h1 x).1, (sgn_eq h1 x).2.1, (sgn_eq h2 x).1, (sgn_eq h2 x).2.1]
  rfl
end K01

set_option Elab.async false
set_option linter.all false
set_option maxRecDepth 100000
set_option maxHeartbeats 4000000
namespace K01
open PySem PySem.Spec L2 Ow
set_option autoImplicit false
abbrev disj (a b : List Nat) : Prop := ∀ x ∈ a, x ∉ b
theorem cut_disj {a b : List Nat} : cut a b = [] ↔ disj a b := by
  simp [cut, List.filter_eq_nil_iff]
/-- one field: what a third may show -/
theorem field_ok {a b c d g h : List Nat} {x : Nat} (h1 : disj a b) (h2 : disj c d) (h3 : disj g h) :
    sgnN g h x ∈ shown (sgnN a b x) (sgnN c d x) ↔ opp a b c d x ∨ ((x ∈ g ↔ x ∈ a ∨ x ∈ c) ∧ (x ∈ h ↔ x ∈ b ∨ x ∈ d)) := by
  rw [shown_tab _ (sgn_lt a b x) _ (sgn_lt c d x) _ (sgn_lt g h x), sgn_opp h1 h2]
  by_cases ho : opp a b c d x
  · simp [ho]
  · simp only [ho, false_or, not_false_eq_true, and_true]
    unfold opp at ho
    have k1 := h1 x
    have k2 := h2 x
    have k3 := h3 x
    by_cases xa : x ∈ a <;> by_cases xb : x ∈ b <;> by_cases xc : x ∈ c <;> by_cases xd : x ∈ d <;> by_cases xg : x ∈ g <;> by_cases xh : x ∈ h <;> simp_all [sgnN]
theorem fits_iff {f a b c d g h : List Nat} : fitsB f (sgns f a b c d) g h = true ↔ ∀ x ∈ f, sgnN g h x ∈ shown (sgnN a b x) (sgnN c d x) := by
  unfold fitsB fitAt sgns
  rw [List.all_eq_true]
  constructor
  · intro z x hx
    obtain ⟨i, hi, rfl⟩ := List.mem_iff_getElem.mp hx
    have := z i (List.mem_range.mpr hi)
    simpa [hi] using this
  · intro z i hi
    have hi := List.mem_range.mp hi
    have := z f[i] (List.getElem_mem hi)
    simpa [hi] using this
theorem asc_off {a b : List Nat} (h : asc a) : asc (off a b) := asc_filter h
theorem asc_join {a b : List Nat} : asc (join a b) := asc_filter asc_FL
theorem good_iff {f a b : List Nat} (hf : asc f) : goodC f [a, b] = true ↔ ((∀ x ∈ a, x ∈ f) ∧ asc a) ∧ ((∀ x ∈ b, x ∈ f) ∧ asc b) ∧ disj a b := by
  simp only [goodC, Bool.and_eq_true, decide_eq_true_eq, lotOn_iff hf, cut_disj, and_assoc]
theorem mem_setA {a b c d : List Nat} {x : Nat} : x ∈ setA a b c d ↔ (x ∈ FL ∧ (x ∈ a ∨ x ∈ c)) ∧ ¬ x ∈ unl a b c d := by
  unfold setA
  rw [mem_off, mem_join]
theorem mem_setB {a b c d : List Nat} {x : Nat} : x ∈ setB a b c d ↔ (x ∈ FL ∧ (x ∈ b ∨ x ∈ d)) ∧ ¬ x ∈ unl a b c d := by
  unfold setB
  rw [mem_off, mem_join]
theorem meets_fits {f a b c d g h : List Nat} (hk : fok f = true) (g1 : goodC f [a, b] = true) (g2 : goodC f [c, d] = true) (g3 : goodC f [g, h] = true) : meetsC [a, b] [c, d] [g, h] = fitsB f (sgns f a b c d) g h := by
  have hf := fok_asc hk
  have h6 := fok_six hk
  obtain ⟨⟨a1, a2⟩, ⟨b1, b2⟩, ab⟩ := (good_iff hf).mp g1
  obtain ⟨⟨c1, c2⟩, ⟨d1, d2⟩, cd⟩ := (good_iff hf).mp g2
  obtain ⟨⟨e1, e2⟩, ⟨k1, k2⟩, gh⟩ := (good_iff hf).mp g3
  rw [Bool.eq_iff_iff, fits_iff]
  unfold meetsC
  rw [Bool.and_eq_true, decide_eq_true_eq, decide_eq_true_eq]
  constructor
  · rintro ⟨m1, m2⟩ x hx
    rw [field_ok ab cd gh]
    by_cases ho : opp a b c d x
    · exact .inl ho
    · right
      have nu : x ∉ unl a b c d := fun z => ho (mem_unl.mp z).2
      have q1 : x ∈ off g (unl a b c d) ↔ x ∈ setA a b c d := by rw [m1]
      have q2 : x ∈ off h (unl a b c d) ↔ x ∈ setB a b c d := by rw [m2]
      rw [mem_setA, mem_off] at q1
      rw [mem_setB, mem_off] at q2
      have h6 := h6 x hx
      exact ⟨⟨fun w => (q1.mp ⟨w, nu⟩).1.2, fun w => (q1.mpr ⟨⟨h6, w⟩, nu⟩).1⟩, ⟨fun w => (q2.mp ⟨w, nu⟩).1.2, fun w => (q2.mpr ⟨⟨h6, w⟩, nu⟩).1⟩⟩
  · intro z
    have key : ∀ x, x ∉ unl a b c d → ((x ∈ g ↔ x ∈ FL ∧ (x ∈ a ∨ x ∈ c)) ∧ (x ∈ h ↔ x ∈ FL ∧ (x ∈ b ∨ x ∈ d))) := by
      intro x nu
      by_cases hx : x ∈ f
      · have := (field_ok ab cd gh).mp (z x hx)
        rcases this with ho | ⟨q1, q2⟩
        · exact absurd (mem_unl.mpr ⟨h6 x hx, ho⟩) nu
        · rw [q1, q2]
          have := h6 x hx
          exact ⟨⟨fun z => ⟨this, z⟩, fun z => z.2⟩, ⟨fun z => ⟨this, z⟩, fun z => z.2⟩⟩
      · have n1 : x ∉ g := fun w => hx (e1 x w)
        have n2 : x ∉ h := fun w => hx (k1 x w)
        have n3 : x ∉ a := fun w => hx (a1 x w)
        have n4 : x ∉ b := fun w => hx (b1 x w)
        have n5 : x ∉ c := fun w => hx (c1 x w)
        have n6 : x ∉ d := fun w => hx (d1 x w)
        exact ⟨⟨fun w => absurd w n1, fun w => w.2.elim (fun w => absurd w n3) fun w => absurd w n5⟩, ⟨fun w => absurd w n2, fun w => w.2.elim (fun w => absurd w n4) fun w => absurd w n6⟩⟩
    refine ⟨asc_eq (asc_off e2) (asc_off asc_join) fun x => ?_, asc_eq (asc_off k2) (asc_off asc_join) fun x => ?_⟩
    · rw [mem_off, mem_setA]
      by_cases nu : x ∈ unl a b c d
      · exact ⟨fun w => absurd nu w.2, fun w => absurd nu w.2⟩
      · rw [(key x nu).1]
    · rw [mem_off, mem_setB]
      by_cases nu : x ∈ unl a b c d
      · exact ⟨fun w => absurd nu w.2, fun w => absurd nu w.2⟩
      · rw [(key x nu).2]
end K01

set_option Elab.async false
set_option linter.all false
set_option maxRecDepth 100000
set_option maxHeartbeats 4000000
namespace K01
open PySem PySem.Spec L2 Ow
set_option autoImplicit false
theorem partsU_sub : ∀ l, ∀ x ∈ partsU l, ∀ c ∈ x, c ∈ l := by
  refine snoc_ind (by simp [partsU]) fun l c ih => ?_
  rw [partsU_snoc]
  intro x hx y hy
  rcases List.mem_append.mp hx with h | h
  · exact List.mem_append_left _ (ih x h y hy)
  · obtain ⟨z, hz, rfl⟩ := List.mem_map.mp h
    rcases List.mem_append.mp hy with h | h
    · exact List.mem_append_left _ (ih z hz y h)
    · exact List.mem_append_right _ h
theorem off_snoc {l x : List Nat} {c : Nat} (h : c ∉ x) : off (l ++ [c]) x = off l x ++ [c] := by
  simp [off, List.filter_append, h]
theorem off_snoc2 {l x : List Nat} {c : Nat} (h : c ∉ l) : off (l ++ [c]) (x ++ [c]) = off l x := by
  unfold off
  rw [List.filter_append]
  have e1 : [c].filter (fun y => !decide (y ∈ x ++ [c])) = [] := by simp
  rw [e1, List.append_nil]
  refine List.filter_congr fun y hy => ?_
  have : y ≠ c := fun e => h (e ▸ hy)
  simp [this]
theorem sum_map_two {α : Type} {f g : α → Nat} (L : List α) (h : ∀ x ∈ L, f x = 2 * g x) : (L.map f).sum = 2 * (L.map g).sum := by
  induction L with
  | nil => rfl
  | cons x L ih =>
    simp only [List.map_cons, List.sum_cons]
    rw [h x (by simp), ih fun y hy => h y (List.mem_cons_of_mem _ hy)]
    omega
theorem pairsU_len : ∀ l : List Nat, l.Nodup → (pairsU l).length = 3 ^ l.length := by
  have e : ∀ l, (pairsU l).length = ((partsU l).map fun x => 2 ^ (off l x).length).sum := by
    intro l
    unfold pairsU
    rw [List.length_flatMap]
    congr 1
    refine List.map_congr_left fun x _ => ?_
    rw [List.length_map, partsU_len]
  refine snoc_ind (fun _ => by decide) fun l c ih nd => ?_
  have nd2 := List.nodup_append.mp nd
  have hc : c ∉ l := fun z => nd2.2.2 c z c (by simp) rfl
  have ih := ih nd2.1
  rw [e] at ih ⊢
  rw [partsU_snoc, List.map_append, List.sum_append, List.map_map, List.length_append, List.length_singleton, Nat.pow_succ, ← ih]
  have s1 : ((partsU l).map fun x => 2 ^ (off (l ++ [c]) x).length).sum = 2 * ((partsU l).map fun x => 2 ^ (off l x).length).sum := sum_map_two _ fun x hx => by
    rw [off_snoc fun z => hc (partsU_sub l x hx c z), List.length_append, List.length_singleton, Nat.pow_succ]
    omega
  have s2 : ((partsU l).map ((fun x => 2 ^ (off (l ++ [c]) x).length) ∘ fun x => x ++ [c])) = (partsU l).map fun x => 2 ^ (off l x).length := List.map_congr_left fun x _ => by
    show 2 ^ (off (l ++ [c]) (x ++ [c])).length = _
    rw [off_snoc2 hc]
  rw [s1, s2]
  omega
end K01

set_option Elab.async false
set_option linter.all false
set_option maxRecDepth 100000
set_option maxHeartbeats 4000000
namespace K01
open PySem PySem.Spec L2 Ow
set_option autoImplicit false
theorem partsU_asc : ∀ l, asc l → ∀ x ∈ partsU l, asc x := by
  refine snoc_ind (fun _ => by simp [partsU]) fun l c ih h => ?_
  have hh := List.pairwise_append.mp h
  rw [partsU_snoc]
  intro x hx
  rcases List.mem_append.mp hx with k | k
  · exact ih hh.1 x k
  · obtain ⟨z, hz, rfl⟩ := List.mem_map.mp k
    exact List.pairwise_append.mpr ⟨ih hh.1 z hz, by simp, fun a ha b hb => hh.2.2 a (partsU_sub l z hz a ha) b hb⟩
theorem partsU_nodup : ∀ l : List Nat, l.Nodup → (partsU l).Nodup := by
  refine snoc_ind (fun _ => by decide) fun l c ih nd => ?_
  have nd2 := List.nodup_append.mp nd
  have hc : c ∉ l := fun z => nd2.2.2 c z c (by simp) rfl
  rw [partsU_snoc]
  refine List.nodup_append.mpr ⟨ih nd2.1, ?_, fun x hx y hy e => ?_⟩
  · exact List.Pairwise.map _ (fun a b n e => n (List.append_inj_left' e rfl)) (ih nd2.1)
  · obtain ⟨z, hz, rfl⟩ := List.mem_map.mp hy
    exact hc (partsU_sub l x hx c (by rw [e]; simp))
theorem pairsU_mem {l : List Nat} {p : List Nat × List Nat} (h : p ∈ pairsU l) : p.1 ∈ partsU l ∧ p.2 ∈ partsU (off l p.1) := by
  unfold pairsU at h
  obtain ⟨x, hx, h⟩ := List.mem_flatMap.mp h
  obtain ⟨y, hy, rfl⟩ := List.mem_map.mp h
  exact ⟨hx, hy⟩
theorem pairsU_nodup {l : List Nat} (h : l.Nodup) : (pairsU l).Nodup := by
  unfold pairsU
  refine List.pairwise_flatMap.mpr ⟨fun x _ => ?_, (partsU_nodup l h).imp fun {a b} n x hx y hy e => ?_⟩
  · exact List.Pairwise.map _ (fun a b n e => n (by injection e)) (partsU_nodup _ (List.Pairwise.filter _ h))
  · obtain ⟨u, _, rfl⟩ := List.mem_map.mp hx
    obtain ⟨v, _, rfl⟩ := List.mem_map.mp hy
    injection e with e1 _
    exact n e1
end K01

set_option Elab.async false
set_option linter.all false
set_option maxRecDepth 100000
set_option maxHeartbeats 4000000
namespace K01
open PySem PySem.Spec L2 Ow
set_option autoImplicit false
theorem prod_len {a b c d : List Nat} (h1 : disj a b) (h2 : disj c d) : ∀ f : List Nat, (∀ x ∈ f, x ∈ FL) → prodL (sgns f a b c d) = 3 ^ (f.filter fun x => decide (x ∈ unl a b c d)).length
  | [], _ => rfl
  | x :: f, h6 => by
    have ih := prod_len h1 h2 f fun y hy => h6 y (List.mem_cons_of_mem _ hy)
    unfold sgns at ih ⊢
    rw [List.map_cons, prodL_cons, ih, shown_len _ (sgn_lt a b x) _ (sgn_lt c d x)]
    by_cases ho : opp a b c d x
    · have hu : x ∈ unl a b c d := mem_unl.mpr ⟨h6 x (by simp), ho⟩
      rw [if_pos ((sgn_opp h1 h2 x).mpr ho), List.filter_cons_of_pos (by simp [hu]), List.length_cons, Nat.pow_succ]
      omega
    · have hu : x ∉ unl a b c d := fun z => ho (mem_unl.mp z).2
      rw [if_neg (fun z => ho ((sgn_opp h1 h2 x).mp z)), List.filter_cons_of_neg (by simp [hu])]
      omega
end K01

set_option Elab.async false
set_option linter.all false
set_option maxRecDepth 100000
set_option maxHeartbeats 4000000
namespace K01
open PySem PySem.Spec L2 Ow
set_option autoImplicit false
theorem asc_nodup {l : List Nat} (h : asc l) : l.Nodup := h.imp fun {a b} hab e => by omega
theorem asc_unl {a b c d : List Nat} : asc (unl a b c d) := asc_join
/-- a meeting of the two -/
theorem met_mem {f a b c d : List Nat} (hk : fok f = true) (g1 : goodC f [a, b] = true) (g2 : goodC f [c, d] = true) {p : List Nat × List Nat} (hp : p ∈ metU a b c d) : metC f (sgns f a b c d) p := by
  have hf := fok_asc hk
  have h6 := fok_six hk
  obtain ⟨⟨a1, a2⟩, ⟨b1, b2⟩, ab⟩ := (good_iff hf).mp g1
  obtain ⟨⟨c1, c2⟩, ⟨d1, d2⟩, cd⟩ := (good_iff hf).mp g2
  obtain ⟨q, hq, rfl⟩ := List.mem_map.mp hp
  obtain ⟨q1, q2⟩ := pairsU_mem hq
  have s1 := partsU_sub _ _ q1
  have s2 := partsU_sub _ _ q2
  have uf : ∀ x, x ∈ unl a b c d → x ∈ f := fun x hx => by
    rcases (mem_unl.mp hx).2 with h | h
    · exact a1 x h.1
    · exact b1 x h.1
  have Af : ∀ x, x ∈ setA a b c d → x ∈ f := fun x hx => (mem_setA.mp hx).1.2.elim (a1 x) (c1 x)
  have Bf : ∀ x, x ∈ setB a b c d → x ∈ f := fun x hx => (mem_setB.mp hx).1.2.elim (b1 x) (d1 x)
  have x1 : ∀ x ∈ join (setA a b c d) q.1, x ∈ f := fun x hx => (mem_join.mp hx).2.elim (Af x) fun z => uf x (s1 x z)
  have x2 : ∀ x ∈ join (setB a b c d) q.2, x ∈ f := fun x hx => (mem_join.mp hx).2.elim (Bf x) fun z => uf x (mem_off.mp (s2 x z)).1
  have dj : disj (join (setA a b c d) q.1) (join (setB a b c d) q.2) := by
    intro x hx hy
    have hx := (mem_join.mp hx).2
    have hy := (mem_join.mp hy).2
    rw [mem_setA] at hx
    rw [mem_setB] at hy
    rcases hx with hx | hx
    · rcases hy with hy | hy
      · have no : ¬ opp a b c d x := fun z => hx.2 (mem_unl.mpr ⟨hx.1.1, z⟩)
        unfold opp at no
        rcases hx.1.2 with h | h <;> rcases hy.1.2 with k | k
        · exact ab x h k
        · exact no (.inl ⟨h, k⟩)
        · exact no (.inr ⟨k, h⟩)
        · exact cd x h k
      · exact hx.2 (mem_off.mp (s2 x hy)).1
    · rcases hy with hy | hy
      · exact hy.2 (s1 x hx)
      · exact (mem_off.mp (s2 x hy)).2 hx
  have gd : goodC f [join (setA a b c d) q.1, join (setB a b c d) q.2] = true := (good_iff hf).mpr ⟨⟨x1, asc_join⟩, ⟨x2, asc_join⟩, dj⟩
  refine ⟨asc_eq (asc_filter hf) asc_join fun x => by rw [mem_cut]; exact ⟨fun z => z.2, fun z => ⟨x1 x z, z⟩⟩, asc_eq (asc_filter hf) asc_join fun x => by rw [mem_cut]; exact ⟨fun z => z.2, fun z => ⟨x2 x z, z⟩⟩, cut_disj.mpr dj, ?_, fun x z => (mem_join.mp z).1, fun x z => (mem_join.mp z).1, Nat.le_trans len_join (by decide), Nat.le_trans len_join (by decide)⟩
  rw [fits_iff]
  intro x hx
  rw [field_ok ab cd dj]
  by_cases ho : opp a b c d x
  · exact .inl ho
  · right
    have hF := h6 x hx
    have nu : x ∉ unl a b c d := fun z => ho (mem_unl.mp z).2
    have n1 : x ∉ q.1 := fun z => nu (s1 x z)
    have n2 : x ∉ q.2 := fun z => nu (mem_off.mp (s2 x z)).1
    rw [mem_join, mem_join, mem_setA, mem_setB]
    exact ⟨⟨fun z => z.2.elim (fun z => z.1.2) fun z => absurd z n1, fun z => ⟨hF, .inl ⟨⟨hF, z⟩, nu⟩⟩⟩, ⟨fun z => z.2.elim (fun z => z.1.2) fun z => absurd z n2, fun z => ⟨hF, .inl ⟨⟨hF, z⟩, nu⟩⟩⟩⟩
end K01

set_option Elab.async false
set_option linter.all false
set_option maxRecDepth 100000
set_option maxHeartbeats 4000000
namespace K01
open PySem PySem.Spec L2 Ow
set_option autoImplicit false
/-- the part that is in the free fields -/
theorem cut_join {u A x : List Nat} (hu : asc u) (hx : asc x) (h6 : ∀ c ∈ u, c ∈ FL) (hA : ∀ c ∈ A, c ∉ u) (hs : ∀ c ∈ x, c ∈ u) : cut u (join A x) = x := by
  refine asc_eq (asc_filter hu) hx fun c => ?_
  rw [mem_cut, mem_join]
  exact ⟨fun z => z.2.2.elim (fun w => absurd z.1 (hA c w)) id, fun z => ⟨hs c z, h6 c (hs c z), .inr z⟩⟩
theorem metU_nodup (a b c d : List Nat) : (metU a b c d).Nodup := by
  unfold metU
  refine List.Pairwise.map (R := fun p q => p ∈ pairsU (unl a b c d) ∧ q ∈ pairsU (unl a b c d) ∧ p ≠ q) _ (fun p q h e => ?_) ?_
  · obtain ⟨hp, hq, n⟩ := h
    have p1 := (pairsU_mem hp).1
    have p2 := (pairsU_mem hp).2
    have q1 := (pairsU_mem hq).1
    have q2 := (pairsU_mem hq).2
    have ua : asc (unl a b c d) := asc_unl
    have u6 : ∀ x ∈ unl a b c d, x ∈ FL := fun x hx => (mem_unl.mp hx).1
    injection e with e1 e2
    have k1 := cut_join ua (partsU_asc _ ua _ p1) u6 (fun x hx => (mem_setA.mp hx).2) (partsU_sub _ _ p1)
    have k2 := cut_join ua (partsU_asc _ ua _ q1) u6 (fun x hx => (mem_setA.mp hx).2) (partsU_sub _ _ q1)
    have k3 := cut_join ua (partsU_asc _ (asc_off ua) _ p2) u6 (fun x hx => (mem_setB.mp hx).2) (fun x hx => (mem_off.mp (partsU_sub _ _ p2 x hx)).1)
    have k4 := cut_join ua (partsU_asc _ (asc_off ua) _ q2) u6 (fun x hx => (mem_setB.mp hx).2) (fun x hx => (mem_off.mp (partsU_sub _ _ q2 x hx)).1)
    rw [e1, k2] at k1
    rw [e2, k4] at k3
    exact n (Prod.ext k1.symm k3.symm)
  · have nd := pairsU_nodup (asc_nodup (asc_unl (a := a) (b := b) (c := c) (d := d)))
    exact List.Pairwise.imp_of_mem (fun hp hq n => ⟨hp, hq, n⟩) nd
theorem ltC_total {p q : List Nat × List Nat} (h1 : ltC q p = false) (n : p ≠ q) : ltC p q = true := by
  cases e : ltC p q with
  | true => rfl
  | false =>
    exfalso
    have z := PyProof.Rows.lex_total _ _ e h1
    rw [ckK_D, ckK_D] at z
    simp [D.py, pyL, PySem.W.keyToks, PySem.W.keyToksAll] at z
    exact n (Prod.ext z.2.1 z.2.2.2)
end K01

set_option Elab.async false
set_option linter.all false
set_option maxRecDepth 100000
set_option maxHeartbeats 4000000
namespace K01
open PySem PySem.Spec L2 Ow
set_option autoImplicit false
theorem metU_len {f a b c d : List Nat} (hk : fok f = true) (g1 : goodC f [a, b] = true) (g2 : goodC f [c, d] = true) : (metU a b c d).length = prodL (sgns f a b c d) := by
  have hf := fok_asc hk
  have h6 := fok_six hk
  obtain ⟨⟨a1, a2⟩, ⟨b1, b2⟩, ab⟩ := (good_iff hf).mp g1
  obtain ⟨⟨c1, c2⟩, ⟨d1, d2⟩, cd⟩ := (good_iff hf).mp g2
  have e : (f.filter fun x => decide (x ∈ unl a b c d)) = unl a b c d := asc_eq (asc_filter hf) asc_unl fun x => by
    rw [List.mem_filter, decide_eq_true_eq]
    refine ⟨fun z => z.2, fun z => ⟨?_, z⟩⟩
    rcases (mem_unl.mp z).2 with h | h
    · exact a1 x h.1
    · exact b1 x h.1
  unfold metU
  rw [List.length_map, pairsU_len _ (asc_nodup asc_unl), prod_len ab cd f h6, e]
theorem met_facts {f a b c d : List Nat} {L : List (List Nat × List Nat)} (hk : fok f = true) (g1 : goodC f [a, b] = true) (g2 : goodC f [c, d] = true) (pm : L.Perm (metU a b c d)) (as : L.Pairwise fun p q => ltC q p = false) :
    L.length = prodL (sgns f a b c d) ∧ 0 < L.length ∧ L.length ≤ 1000000 ∧ (∀ p ∈ L, metC f (sgns f a b c d) p) ∧ L.Pairwise fun p q => ltC p q = true := by
  have nd : L.Nodup := pm.nodup_iff.mpr (metU_nodup a b c d)
  refine ⟨pm.length_eq.trans (metU_len hk g1 g2), ?_, ?_, fun p hp => met_mem hk g1 g2 (pm.mem_iff.mp hp), ?_⟩
  · rw [pm.length_eq]
    unfold metU
    rw [List.length_map, pairsU_len _ (asc_nodup asc_unl)]
    exact Nat.pow_pos (by decide)
  · rw [pm.length_eq]
    unfold metU
    rw [List.length_map]
    exact Nat.le_trans (pairsU_le len_join) (by decide)
  · exact (as.and nd).imp fun h => ltC_total h.1 h.2
end K01

set_option Elab.async false
set_option linter.all false
set_option maxRecDepth 100000
set_option maxHeartbeats 4000000
namespace K01
open PySem PySem.Spec L2 Ow
set_option autoImplicit false
/-- signs that a text of these draws may hold -/
abbrev low (a : List Nat) : Prop := ∀ c ∈ a, c < 128
abbrev lowC (l : Cs) : Prop := ∀ x ∈ l, low x
theorem low_ok {a : List Nat} (h : low a) : PyData.strOk (T a) = true := by
  simp only [PyData.strOk, T]
  simp
  intro c hc
  have z := h c hc
  omega
theorem pur_cD (l : Cs) : purL (l.map tD) = true := by
  induction l with
  | nil => rfl
  | cons a l ih => simpa [purL, D.pur] using ih
theorem lay_cD : ∀ {l : Cs}, lowC l → PyData.canLayAll0 (pyL (l.map tD)) = true
  | [], _ => rfl
  | a :: l, h => by
    simp [pyL, D.py, PyData.canLayAll0, PyData.canLay0, low_ok (h a (by simp))]
    exact lay_cD fun x hx => h x (by simp [hx])
theorem dep_cD : ∀ (l : Cs), PyData.depthAll (pyL (l.map tD)) ≤ 1
  | [] => by simp [pyL, PyData.depthAll]
  | a :: l => by
    have := dep_cD l
    simp [pyL, D.py, PyData.depthAll, PyData.depth]
    try omega
theorem ne_ref {q : Str × D} {P : SV → Prop} (hq : (∃ t, low t ∧ q.2 = tD t) ∨ ∃ l, lowC l ∧ q.2 = cD l) : dNe (refD (some q)) (.tup []) P = P (.frz (.bl true)) := by
  obtain ⟨c, x⟩ := q
  have e1 : PyData.strOk "refused" = true := by decide +kernel
  have e2 : PyData.strOk " lot" = true := by decide +kernel
  have e3 : PyData.strOk " case" = true := by decide +kernel
  have e4 : PyData.strOk (if c = "BadLot" then " lot" else " case") = true := by split <;> assumption
  rcases hq with ⟨t, ht, rfl⟩ | ⟨l, hl, rfl⟩
  · unfold dNe
    simp [refD, low_ok ht, e1, e4, D.scal, D.pur, purL, D.py, pyL, SeqAt.shaped, PyData.canLay0, PyData.canLayAll0, PyData.depth, PyData.depthAll, PyData.eqv, PyData.eqvAll]
  · have := dep_cD l
    unfold dNe
    simp [refD, pur_cD, lay_cD hl, e1, e4, D.scal, D.pur, purL, D.py, pyL, SeqAt.shaped, PyData.canLay0, PyData.canLayAll0, PyData.depth, PyData.depthAll, PyData.eqv, PyData.eqvAll]
    intros
    omega
theorem mErr_x {f : List Nat} {ls : List Cs} {q : Str × D} (hf : low f) (hl : ∀ l ∈ ls, lowC l ∧ l.length ≤ 100) (h : mErr f ls = some q) : (∃ t, low t ∧ q.2 = tD t) ∨ ∃ l, (lowC l ∧ l.length ≤ 100) ∧ q.2 = cD l := by
  unfold mErr at h
  split at h
  · right
    induction ls with
    | nil => cases h
    | cons l ls ih =>
      unfold cErr at h
      split at h
      · exact ih (fun x hx => hl x (by simp [hx])) h
      · cases h
        exact ⟨l, hl l (by simp), rfl⟩
  · cases h
    exact .inl ⟨f, hf, rfl⟩
theorem mErr_none {f : List Nat} {ls : List Cs} (h : mErr f ls = none) : fok f = true ∧ ∀ l ∈ ls, goodC f l = true := by
  unfold mErr at h
  split at h
  · rename_i hk
    refine ⟨hk, ?_⟩
    induction ls with
    | nil => simp
    | cons l ls ih =>
      unfold cErr at h
      split at h
      · rename_i g
        intro x hx
        rcases List.mem_cons.mp hx with rfl | hx
        · exact g
        · exact ih h x hx
      · cases h
  · cases h
def csT (l : Cs) : Tr := .t (l.map fun x => .s (T x))
theorem csT_d (l : Cs) : (csT l).d = cD l := by
  have : ∀ l : Cs, Tr.ds (l.map fun x => .s (T x)) = l.map tD := by
    intro l
    induction l with
    | nil => rfl
    | cons a l ih => simp [Tr.ds, Tr.d, ih]
  simp [csT, Tr.d, this]
theorem csT_n (l : Cs) : (csT l).n = 1 + l.length := by
  have : ∀ l : Cs, Tr.ns (l.map fun x => .s (T x)) = l.length := by
    intro l
    induction l with
    | nil => rfl
    | cons a l ih => simp [Tr.ns, Tr.n, ih]; omega
  simp [csT, Tr.n, this]
theorem ref_tr {q : Str × D} (hq : (∃ t, low t ∧ q.2 = tD t) ∨ ∃ l, (lowC l ∧ l.length ≤ 100) ∧ q.2 = cD l) : ∃ t : Tr, refD (some q) = t.d ∧ t.n ≤ 1000 := by
  obtain ⟨c, x⟩ := q
  rcases hq with ⟨t, _, rfl⟩ | ⟨l, ⟨_, hl⟩, rfl⟩
  · exact ⟨.t [.s "refused", .s (if c = "BadLot" then " lot" else " case"), .s (T t)], by simp [refD, Tr.d, Tr.ds], by simp [Tr.n, Tr.ns]⟩
  · exact ⟨.t [.s "refused", .s (if c = "BadLot" then " lot" else " case"), csT l], by simp [refD, Tr.d, Tr.ds, csT_d], by simp [Tr.n, Tr.ns, csT_n]; omega⟩
namespace S
def _law_round : DSp := fun cs ds P => ∃ (w : Nat) (f : List Nat) (l1 l2 l3 : Cs), cs = [] ∧ ds = [.int w, tD f, cD l1, cD l2, cD l3] ∧ w ≤ 1 ∧ sm f ∧ low f ∧ (smC l1 ∧ lowC l1) ∧ (smC l2 ∧ lowC l2) ∧ (smC l3 ∧ lowC l3) ∧ P (.ok (.frz (.bl true))) []
end S
def r__law_round : DS := (dSeq (dSet 5 (dFn S._law_asked (daCons (dVar 0) (daCons (dVar 1) (daCons (dVar 2) (daCons (dVar 3) (daCons (dVar 4) daNil))))))) (dSeq (dSet 6 (dFn S._law_refusal (daCons (dVar 0) (daCons (dVar 1) (daCons (dVar 2) (daCons (dVar 3) (daCons (dVar 4) daNil))))))) (dSeq (dIf (dOp dNe (dVar 6) (dTup daNil)) (dRet (dFn S._law_same (daCons (dVar 5) (daCons (dVar 6) daNil)))) dPass) (dSeq (dSet 7 (dFn S._law_signs (daCons (dVar 1) (daCons (dVar 2) (daCons (dVar 3) daNil))))) (dSeq (dIf (dOp dEq (dVar 0) (dC (.int 1))) (dRet (dFn S._law_same (daCons (dVar 5) (daCons (dTup (daCons (dC (.str "good")) (daCons (dFn S._law_fits (daCons (dVar 1) (daCons (dVar 7) (daCons (dVar 4) daNil)))) daNil))) daNil)))) dPass) (dRet (dAnd (dOp dEq (dIxV 5 dIx (dC (.int 0))) (dC (.str "good"))) (dFn S._law_all_met (daCons (dVar 1) (daCons (dVar 7) (daCons (dIxV 5 dIx (dC (.int 1))) daNil)))))))))))
def N__law_round : List Str := ["which", "fields", "one", "two", "third", "told", "due", "signs"]
theorem p__law_round : ∀ cs ds P, S._law_round cs ds P → cs.length = 0 ∧ cs.length + ds.length = 5 ∧ r__law_round (startD N__law_round cs ds) (endP 0 P) := by
  rintro _ _ P ⟨w, f, l1, l2, l3, rfl, rfl, hw, h0, f0, ⟨h1, g1⟩, ⟨h2, g2⟩, ⟨h3, g3⟩, hp⟩
  refine ⟨rfl, rfl, ?_⟩
  simp [r__law_round, N__law_round, startD, endP, outs, dRet, dRetV, dsThen, dM1, dThen, daThen, dC, dLc, dItems, dVar, dVarV, still, D.items, D.isTxt, wipeD, SVd_f, SVd_o, SVd_b, SVm_f, SVm_o, SVm_b, SVp_f, SVp_o, SVp_b, dOp, dIn_s, dNotin_s, dEq_s, dEq_i, dEq_b, dNe_s, dNe_i, T_len, T_inj, dTT, lcTurn, gN, nbor, onB_bl, nborL, backD, T_subIn, dCall, daCons, daNil, dTup, dLst, dSeq, dIf, dPass, dSet, dDrop, dAsg, dOr, dAnd, dNot, dIfE, dIxV, dFn, dFnB, gT, gsCons, gsNil, S._law_asked]
  refine ⟨w, f, l1, l2, l3, ⟨rfl, rfl, rfl, rfl, rfl⟩, hw, h0, h1, h2, h3, ?_⟩
  have hall : ∀ l ∈ askL w l1 l2 l3, lowC l ∧ l.length ≤ 100 := by
    intro l hl
    have : l = l1 ∨ l = l2 ∨ l = l3 := by
      unfold askL at hl
      split at hl <;> simp at hl
      · exact hl
      · rcases hl with h | h
        · exact .inl h
        · exact .inr (.inl h)
    rcases this with rfl | rfl | rfl
    · exact ⟨g1, h1.1⟩
    · exact ⟨g2, h2.1⟩
    · exact ⟨g3, h3.1⟩
  cases e : mErr f (askL w l1 l2 l3) with
  | some q =>
    refine ⟨fun _ => ?_, fun z => by simp at z, fun z => by simp at z⟩
    simp [S._law_refusal]
    refine ⟨w, f, l1, l2, l3, ⟨rfl, rfl, rfl, rfl, rfl⟩, h0, h1, h2, h3, ?_⟩
    have hx := mErr_x f0 hall e
    rw [e, ne_ref (hx.imp id fun ⟨l, h, k⟩ => ⟨l, h.1, k⟩)]
    obtain ⟨t, et, nt⟩ := ref_tr hx
    rw [et]
    simp [startD, endP, outs, dRet, dRetV, dsThen, dM1, dThen, daThen, dC, dLc, dItems, dVar, dVarV, still, D.items, D.isTxt, wipeD, SVd_f, SVd_o, SVd_b, SVm_f, SVm_o, SVm_b, SVp_f, SVp_o, SVp_b, dOp, dIn_s, dNotin_s, dEq_s, dEq_i, dEq_b, dNe_s, dNe_i, T_len, T_inj, dTT, lcTurn, gN, nbor, onB_bl, nborL, backD, T_subIn, dCall, daCons, daNil, dTup, dLst, dSeq, dIf, dPass, dSet, dDrop, dAsg, dOr, dAnd, dNot, dIfE, dIxV, dFn, dFnB, gT, gsCons, gsNil, S._law_same]
    exact ⟨t, rfl, nt, hp⟩
  | none =>
    obtain ⟨hk, ga⟩ := mErr_none e
    have q1 := ga l1 (by unfold askL; split <;> simp)
    have q2 := ga l2 (by unfold askL; split <;> simp)
    obtain ⟨a, b, rfl⟩ := good_two q1
    obtain ⟨c, d, rfl⟩ := good_two q2
    refine ⟨fun z => by simp at z, fun _ w1 => ?_, fun _ w0 => ?_⟩
    · subst w1
      have q3 := ga l3 (by unfold askL; simp)
      obtain ⟨g, h, rfl⟩ := good_two q3
      simp [S._law_refusal]
      refine ⟨1, f, [a, b], [c, d], [g, h], ⟨rfl, by simp, by simp, by simp, by simp⟩, h0, h1, h2, h3, ?_⟩
      rw [e]
      simp [refD, ne_nil, startD, endP, outs, dRet, dRetV, dsThen, dM1, dThen, daThen, dC, dLc, dItems, dVar, dVarV, still, D.items, D.isTxt, wipeD, SVd_f, SVd_o, SVd_b, SVm_f, SVm_o, SVm_b, SVp_f, SVp_o, SVp_b, dOp, dIn_s, dNotin_s, dEq_s, dEq_i, dEq_b, dNe_s, dNe_i, T_len, T_inj, dTT, lcTurn, gN, nbor, onB_bl, nborL, backD, T_subIn, dCall, daCons, daNil, dTup, dLst, dSeq, dIf, dPass, dSet, dDrop, dAsg, dOr, dAnd, dNot, dIfE, dIxV, dFn, dFnB, gT, gsCons, gsNil, S._law_signs]
      refine ⟨f, a, b, c, d, ⟨rfl, by simp, by simp⟩, h0, ?_⟩
      simp [S._law_fits, startD, endP, outs, dRet, dRetV, dsThen, dM1, dThen, daThen, dC, dLc, dItems, dVar, dVarV, still, D.items, D.isTxt, wipeD, SVd_f, SVd_o, SVd_b, SVm_f, SVm_o, SVm_b, SVp_f, SVp_o, SVp_b, dOp, dIn_s, dNotin_s, dEq_s, dEq_i, dEq_b, dNe_s, dNe_i, T_len, T_inj, dTT, lcTurn, gN, nbor, onB_bl, nborL, backD, T_subIn, dCall, daCons, daNil, dTup, dLst, dSeq, dIf, dPass, dSet, dDrop, dAsg, dOr, dAnd, dNot, dIfE, dIxV, dFn, dFnB, gT, gsCons, gsNil]
      refine ⟨f, sgns f a b c d, g, h, ⟨rfl, by simp, by simp⟩, h0, by simp [sgns], ?_⟩
      simp [S._law_same, startD, endP, outs, dRet, dRetV, dsThen, dM1, dThen, daThen, dC, dLc, dItems, dVar, dVarV, still, D.items, D.isTxt, wipeD, SVd_f, SVd_o, SVd_b, SVm_f, SVm_o, SVm_b, SVp_f, SVp_o, SVp_b, dOp, dIn_s, dNotin_s, dEq_s, dEq_i, dEq_b, dNe_s, dNe_i, T_len, T_inj, dTT, lcTurn, gN, nbor, onB_bl, nborL, backD, T_subIn, dCall, daCons, daNil, dTup, dLst, dSeq, dIf, dPass, dSet, dDrop, dAsg, dOr, dAnd, dNot, dIfE, dIxV, dFn, dFnB, gT, gsCons, gsNil]
      rw [← meets_fits hk q1 q2 q3]
      exact ⟨by unfold sizeLine; omega, Tr.t [.s "good", .b (meetsC [a, b] [c, d] [g, h])], by simp [Tr.d, Tr.ds], by simp [Tr.n, Tr.ns], hp⟩
    · subst w0
      intro a' b' c' d' e1 e2 L pm pw
      cases e1
      cases e2
      simp [S._law_refusal]
      refine ⟨0, f, [a, b], [c, d], l3, ⟨rfl, by simp, by simp, by simp, by simp⟩, h0, h1, h2, h3, ?_⟩
      rw [e]
      simp [refD, ne_nil, startD, endP, outs, dRet, dRetV, dsThen, dM1, dThen, daThen, dC, dLc, dItems, dVar, dVarV, still, D.items, D.isTxt, wipeD, SVd_f, SVd_o, SVd_b, SVm_f, SVm_o, SVm_b, SVp_f, SVp_o, SVp_b, dOp, dIn_s, dNotin_s, dEq_s, dEq_i, dEq_b, dNe_s, dNe_i, T_len, T_inj, dTT, lcTurn, gN, nbor, onB_bl, nborL, backD, T_subIn, dCall, daCons, daNil, dTup, dLst, dSeq, dIf, dPass, dSet, dDrop, dAsg, dOr, dAnd, dNot, dIfE, dIxV, dFn, dFnB, gT, gsCons, gsNil, S._law_signs]
      refine ⟨f, a, b, c, d, ⟨rfl, by simp, by simp⟩, h0, ?_⟩
      obtain ⟨m1, m2, m3, m4, m5⟩ := met_facts hk q1 q2 pm pw
      simp [S._law_all_met, startD, endP, outs, dRet, dRetV, dsThen, dM1, dThen, daThen, dC, dLc, dItems, dVar, dVarV, still, D.items, D.isTxt, wipeD, SVd_f, SVd_o, SVd_b, SVm_f, SVm_o, SVm_b, SVp_f, SVp_o, SVp_b, dOp, dIn_s, dNotin_s, dEq_s, dEq_i, dEq_b, dNe_s, dNe_i, T_len, T_inj, dTT, lcTurn, gN, nbor, onB_bl, nborL, backD, T_subIn, dCall, daCons, daNil, dTup, dLst, dSeq, dIf, dPass, dSet, dDrop, dAsg, dOr, dAnd, dNot, dIfE, dIxV, dFn, dFnB, gT, gsCons, gsNil, dIx, atI, ixN]
      exact ⟨f, sgns f a b c d, L, ⟨rfl, rfl, rfl⟩, h0, by simp [sgns], m1, m2, m3, fun x y h => m4 (x, y) h, m5, hp⟩
end K01

set_option Elab.async false
set_option linter.all false
set_option maxRecDepth 100000
set_option maxHeartbeats 4000000
namespace K01
open PySem PySem.Spec L2 Ow
set_option autoImplicit false
structure Sto where
  xs : List Int
  a : Int
  r : Int
  t : Int
  s : Int
def Sto.kv (z : Sto) : List (Key × D) := [(.inr "cells", .lst (z.xs.map .int)), (.inr "at", .int z.a), (.inr "rest", .int z.r), (.inr "turn", .int z.t), (.inr "seed", .int z.s)]
def Sto.d (z : Sto) : D := .dK z.kv
def Sto.ok (k : Nat) (z : Sto) : Prop := z.xs.length ≤ 63 ∧ 0 ≤ z.a ∧ 0 ≤ z.r ∧ (0 ≤ z.t ∧ z.t + k ≤ 1000000) ∧ 0 ≤ z.s ∧ z.s < 2 ^ 61
theorem Sto.ok.le {k j : Nat} {z : Sto} (h : z.ok k) (hj : j ≤ k) : z.ok j := by
  obtain ⟨a, b, c, ⟨d, e⟩, f⟩ := h
  exact ⟨a, b, c, ⟨d, by omega⟩, f⟩
theorem g_cells {z : Sto} : dval z.kv (.inr "cells") = some (.lst (z.xs.map .int)) := rfl
theorem g_at {z : Sto} : dval z.kv (.inr "at") = some (.int z.a) := rfl
theorem g_rest {z : Sto} : dval z.kv (.inr "rest") = some (.int z.r) := rfl
theorem g_turn {z : Sto} : dval z.kv (.inr "turn") = some (.int z.t) := rfl
theorem g_seed {z : Sto} : dval z.kv (.inr "seed") = some (.int z.s) := rfl
theorem p_at {z : Sto} {v : Int} : dput z.kv (.inr "at") (.int v) = ({ z with a := v } : Sto).kv := rfl
theorem p_rest {z : Sto} {v : Int} : dput z.kv (.inr "rest") (.int v) = ({ z with r := v } : Sto).kv := rfl
theorem p_turn {z : Sto} {v : Int} : dput z.kv (.inr "turn") (.int v) = ({ z with t := v } : Sto).kv := rfl
theorem kv_len {z : Sto} : z.kv.length < sizeLine := by
  unfold Sto.kv sizeLine
  simp
namespace S
def _law_mix : DSp := fun cs ds P => ∃ i : Int, cs = [] ∧ ds = [.int i] ∧ 0 ≤ i ∧ i < 2 ^ 200 ∧ ∀ j : Int, 0 ≤ j → j < 2 ^ 61 → P (.ok (.frz (.int j))) []
def _law_take : DSp := fun cs ds P => ∃ (z : Sto) (k m : Nat), cs = [z.d] ∧ ds = [.int m] ∧ z.ok (k + 1) ∧ m < 2 ^ 62 ∧ ∀ (z' : Sto) (r : Nat), z'.ok k → r < max m 1 → P (.ok (.frz (.int r))) [z'.d]
end S
def r__law_mix : DS := (dSeq (dSet 1 (dOp dMod (dCall dInt (daCons (dOp dAdd (dOp dMul2 (dVar 0) (dC (.int 6364136223846793005))) (dC (.int 1442695040888963407))) daNil)) (dC (.int 2305843009213693951)))) (dSeq (dFor (daMap (daCons (dC (.int 2)) daNil) kRng1) (gN 2) (dSet 1 (dOp dMod (dCall dInt (daCons (dOp dMul2 (dOp dAdd (dVar 1) (dOp dDiv (dVar 1) (dC (.int 1073741824)))) (dOp dAdd (dOp dMod (dVar 1) (dC (.int 1073741824))) (dC (.int 2862933555777941757)))) daNil)) (dC (.int 2305843009213693951))))) (dRet (dOp dDiv (dVar 1) (dC (.int 512))))))
def N__law_mix : List Str := ["number", "mixed", "turn"]
def mixB : DS := (dSet 1 (dOp dMod (dCall dInt (daCons (dOp dMul2 (dOp dAdd (dVar 1) (dOp dDiv (dVar 1) (dC (.int 1073741824)))) (dOp dAdd (dOp dMod (dVar 1) (dC (.int 1073741824))) (dC (.int 2862933555777941757)))) daNil)) (dC (.int 2305843009213693951))))
theorem mix_b {d0 : D} {m : Int} {o2 : Option SV} {K : SO → Ow.Env → Prop} (h0 : 0 ≤ m) (h1 : m < 2 ^ 61) (hk : ∀ m' : Int, 0 ≤ m' → m' < 2 ^ 61 → K .nx [some (.frz d0), some (.frz (.int m')), o2]) : mixB [some (.frz d0), some (.frz (.int m)), o2] K := by
  simp [mixB, startD, endP, outs, dRet, dRetV, dsThen, dM1, dThen, daThen, dC, dLc, dItems, dVar, dVarV, still, D.items, D.isTxt, wipeD, SVd_f, SVd_o, SVd_b, SVm_f, SVm_o, SVm_b, SVp_f, SVp_o, SVp_b, dOp, dIn_s, dNotin_s, dEq_s, dEq_i, dEq_b, dNe_s, dNe_i, T_len, T_inj, dTT, lcTurn, gN, nbor, onB_bl, nborL, backD, T_subIn, dCall, daCons, daNil, dTup, dLst, dSeq, dIf, dPass, dSet, dDrop, dAsg, dOr, dAnd, dNot, dIfE, dIxV, dFn, dFnB, gT, gsCons, gsNil, SVd_f, SVd_o, SVd_b, dAdd_i, dSub_i, dInt_i, dLt_i, dGt_i, dGe_i, dLe_i, dEq_i, dNe_i]
  refine dDiv_i (by decide) (by decide) ?_
  simp [SVd_f, SVd_o, SVd_b, dAdd_i, dSub_i, dInt_i, dLt_i, dGt_i, dGe_i, dLe_i, dEq_i, dNe_i]
  refine dMod_i (by decide) ?_
  simp [SVd_f, SVd_o, SVd_b, dAdd_i, dSub_i, dInt_i, dLt_i, dGt_i, dGe_i, dLe_i, dEq_i, dNe_i]
  refine dMul_i (Nat.lt_trans (l2_lt (k := 200) (by omega) (by omega) (by decide)) (by decide)) (Nat.lt_trans (l2_lt (k := 200) (by omega) (by omega) (by decide)) (by decide)) ?_
  simp [SVd_f, SVd_o, SVd_b, dAdd_i, dSub_i, dInt_i, dLt_i, dGt_i, dGe_i, dLe_i, dEq_i, dNe_i]
  refine dMod_i (by decide) ?_
  exact hk _ (Int.emod_nonneg _ (by decide)) (Int.lt_of_lt_of_le (Int.emod_lt_of_pos _ (by decide)) (by decide))
theorem p__law_mix : ∀ cs ds P, S._law_mix cs ds P → cs.length = 0 ∧ cs.length + ds.length = 1 ∧ r__law_mix (startD N__law_mix cs ds) (endP 0 P) := by
  rintro _ _ P ⟨i, rfl, rfl, h0, h1, hp⟩
  refine ⟨rfl, rfl, ?_⟩
  rw [show r__law_mix = (dSeq (dSet 1 (dOp dMod (dCall dInt (daCons (dOp dAdd (dOp dMul2 (dVar 0) (dC (.int 6364136223846793005))) (dC (.int 1442695040888963407))) daNil)) (dC (.int 2305843009213693951)))) (dSeq (dFor (daMap (daCons (dC (.int 2)) daNil) kRng1) (gN 2) mixB) (dRet (dOp dDiv (dVar 1) (dC (.int 512)))))) from rfl]
  simp [N__law_mix, startD, endP, outs, dRet, dRetV, dsThen, dM1, dThen, daThen, dC, dLc, dItems, dVar, dVarV, still, D.items, D.isTxt, wipeD, SVd_f, SVd_o, SVd_b, SVm_f, SVm_o, SVm_b, SVp_f, SVp_o, SVp_b, dOp, dIn_s, dNotin_s, dEq_s, dEq_i, dEq_b, dNe_s, dNe_i, T_len, T_inj, dTT, lcTurn, gN, nbor, onB_bl, nborL, backD, T_subIn, dCall, daCons, daNil, dTup, dLst, dSeq, dIf, dPass, dSet, dDrop, dAsg, dOr, dAnd, dNot, dIfE, dIxV, dFn, dFnB, gT, gsCons, gsNil]
  refine dMul_i (Nat.lt_trans (l2_lt h0 h1 (by decide)) (by decide)) (by decide +kernel) ?_
  simp [SVd_f, SVd_o, SVd_b, dAdd_i, dSub_i, dInt_i, dLt_i, dGt_i, dGe_i, dLe_i, dEq_i, dNe_i]
  refine dMod_i (by decide) ?_
  simp [dFor, startD, endP, outs, dRet, dRetV, dsThen, dM1, dThen, daThen, dC, dLc, dItems, dVar, dVarV, still, D.items, D.isTxt, wipeD, SVd_f, SVd_o, SVd_b, SVm_f, SVm_o, SVm_b, SVp_f, SVp_o, SVp_b, dOp, dIn_s, dNotin_s, dEq_s, dEq_i, dEq_b, dNe_s, dNe_i, T_len, T_inj, dTT, lcTurn, gN, nbor, onB_bl, nborL, backD, T_subIn, dCall, daCons, daNil, dTup, dLst, dSeq, dIf, dPass, dSet, dDrop, dAsg, dOr, dAnd, dNot, dIfE, dIxV, dFn, dFnB, gT, gsCons, gsNil, daMap, kRng1, range_n]
  refine forInv (fun r ρ => ∃ (m : Int) (o2 : Option D), ρ = [some (.frz (.int i)), some (.frz (.int m)), o2.map SV.frz] ∧ 0 ≤ m ∧ m < 2 ^ 61) (fun n r ρ hi K hk' hr => ?_) (List.range 2) _ ⟨_, none, rfl, Int.emod_nonneg _ (by decide), Int.lt_of_lt_of_le (Int.emod_lt_of_pos _ (by decide)) (by decide)⟩ (fun ρ hi => ?_)
  · obtain ⟨m, o2, rfl, i1, i2⟩ := hi
    simp only [gN]
    refine ⟨by cases o2 <;> simp [nbor], ?_⟩
    refine mix_b i1 i2 fun m' j0 j1 => ?_
    exact hk' _ ⟨m', some (nI n), rfl, j0, j1⟩
  · obtain ⟨m, o2, rfl, i1, i2⟩ := hi
    simp [startD, endP, outs, dRet, dRetV, dsThen, dM1, dThen, daThen, dC, dLc, dItems, dVar, dVarV, still, D.items, D.isTxt, wipeD, SVd_f, SVd_o, SVd_b, SVm_f, SVm_o, SVm_b, SVp_f, SVp_o, SVp_b, dOp, dIn_s, dNotin_s, dEq_s, dEq_i, dEq_b, dNe_s, dNe_i, T_len, T_inj, dTT, lcTurn, gN, nbor, onB_bl, nborL, backD, T_subIn, dCall, daCons, daNil, dTup, dLst, dSeq, dIf, dPass, dSet, dDrop, dAsg, dOr, dAnd, dNot, dIfE, dIxV, dFn, dFnB, gT, gsCons, gsNil]
    refine dDiv_i (by decide) (by decide) ?_
    exact hp _ (by omega) (by omega)
def r__law_take : DS := (dSeq (dIf (dOp dLtD (dVar 1) (dC (.int 2))) (dRet (dC (.int 0))) dPass) (dSeq (dSet 2 (dGetV 0 (dC (.str "cells")))) (dSeq (dSet 3 (dC (.int 0))) (dSeq (dIf (dAnd (dOp dEq (dGetV 0 (dC (.str "rest"))) (dC (.int 0))) (dOp dLtD (dGetV 0 (dC (.str "at"))) (dCall dLen (daCons (dVarV 2) daNil)))) (dSeq (dSet 4 (dCall dInt (daCons (dIxV 2 dIx (dGetV 0 (dC (.str "at")))) daNil))) (dSeq (dPutV 0 (dOp dAdd (dGetV 0 (dC (.str "at"))) (dC (.int 1))) (dC (.str "at"))) (dIf (dOp dGe (dVar 4) (dOp dPow (dC (.int 10)) (dC (.int 18)))) (dPutV 0 (dOp dMod (dVar 4) (dOp dMul2 (dOp dMul2 (dOp dMul2 (dOp dPow (dC (.int 10)) (dC (.int 64))) (dOp dPow (dC (.int 10)) (dC (.int 64)))) (dOp dPow (dC (.int 10)) (dC (.int 64)))) (dOp dPow (dC (.int 10)) (dC (.int 64))))) (dC (.str "rest"))) (dSet 3 (dOp dAdd (dC (.int 1)) (dOp dMod (dVar 4) (dC (.int 2305843009213693951)))))))) dPass) (dSeq (dSet 5 (dCall dInt (daCons (dGetV 0 (dC (.str "rest"))) daNil))) (dSeq (dIf (dOp dGt (dVar 5) (dC (.int 0))) (dSeq (dPutV 0 (dOp dDiv (dVar 5) (dVarV 1)) (dC (.str "rest"))) (dRet (dOp dMod (dVar 5) (dVarV 1)))) dPass) (dSeq (dPutV 0 (dOp dAdd (dGetV 0 (dC (.str "turn"))) (dC (.int 1))) (dC (.str "turn"))) (dRet (dOp dMod (dCall dInt (daCons (dFn S._law_mix (daCons (dOp dAdd (dOp dAdd (dGetV 0 (dC (.str "seed"))) (dOp dMul2 (dGetV 0 (dC (.str "turn"))) (dC (.int 2147483647)))) (dOp dMul2 (dVar 3) (dC (.int 16807)))) daNil)) daNil)) (dVarV 1))))))))))
def N__law_take : List Str := ["store", "many", "cells", "number", "cell", "rest"]
def tkEnd : DS := (dSeq (dSet 5 (dCall dInt (daCons (dGetV 0 (dC (.str "rest"))) daNil))) (dSeq (dIf (dOp dGt (dVar 5) (dC (.int 0))) (dSeq (dPutV 0 (dOp dDiv (dVar 5) (dVarV 1)) (dC (.str "rest"))) (dRet (dOp dMod (dVar 5) (dVarV 1)))) dPass) (dSeq (dPutV 0 (dOp dAdd (dGetV 0 (dC (.str "turn"))) (dC (.int 1))) (dC (.str "turn"))) (dRet (dOp dMod (dCall dInt (daCons (dFn S._law_mix (daCons (dOp dAdd (dOp dAdd (dGetV 0 (dC (.str "seed"))) (dOp dMul2 (dGetV 0 (dC (.str "turn"))) (dC (.int 2147483647)))) (dOp dMul2 (dVar 3) (dC (.int 16807)))) daNil)) daNil)) (dVarV 1))))))
theorem emod_nat {a : Int} {m : Nat} (hm : 2 ≤ m) : ∃ r : Nat, a % (m : Int) = r ∧ r < max m 1 := by
  have h1 : 0 ≤ a % (m : Int) := Int.emod_nonneg _ (by omega)
  have h2 : a % (m : Int) < m := Int.emod_lt_of_pos _ (by omega)
  exact ⟨(a % (m : Int)).toNat, by omega, by omega⟩
theorem tk_end {z : Sto} {k m : Nat} {n : Int} {o2 o4 : Option SV} {P : O → List D → Prop} (hz : z.ok (k + 1)) (h2 : 2 ≤ m) (hm : m < 2 ^ 62) (n0 : 0 ≤ n) (n1 : n < 2 ^ 62)
    (hp : ∀ (z' : Sto) (r : Nat), z'.ok k → r < max m 1 → P (.ok (.frz (.int r))) [z'.d]) : tkEnd [some (.bor z.d), some (.frz (.int m)), o2, some (.frz (.int n)), o4, none] (endP 1 P) := by
  obtain ⟨a1, a2, a3, ⟨a4, a5⟩, a6, a7⟩ := hz
  have hm2 : (m : Int) < 2 ^ 62 := by exact_mod_cast hm
  simp [tkEnd, startD, endP, outs, dRet, dRetV, dsThen, dM1, dThen, daThen, dC, dLc, dItems, dVar, dVarV, still, D.items, D.isTxt, wipeD, SVd_f, SVd_o, SVd_b, SVm_f, SVm_o, SVm_b, SVp_f, SVp_o, SVp_b, dOp, dIn_s, dNotin_s, dEq_s, dEq_i, dEq_b, dNe_s, dNe_i, T_len, T_inj, dTT, lcTurn, gN, nbor, onB_bl, nborL, backD, T_subIn, dCall, daCons, daNil, dTup, dLst, dSeq, dIf, dPass, dSet, dDrop, dAsg, dOr, dAnd, dNot, dIfE, dIxV, dFn, dFnB, gT, gsCons, gsNil, dGetV, dPutV, Sto.d, D.key?, g_rest, g_turn, g_seed, p_rest, p_turn, dInt_i, dGt_i, dAdd_i]
  refine ifP (fun hr => ?_) (fun hr => ?_)
  · refine dDiv_i (by omega) (by omega) ?_
    simp [kv_len]
    refine dMod_i (by omega) ?_
    obtain ⟨r, e1, e2⟩ := emod_nat (a := z.r) h2
    rw [e1]
    exact hp { z with r := z.r / m } r ⟨a1, a2, Int.ediv_nonneg a3 (by omega), ⟨a4, by show z.t + k ≤ 1000000; omega⟩, a6, a7⟩ e2
  · simp [SVd_f, SVd_o, SVd_b, dAdd_i, dSub_i, dInt_i, dLt_i, dGt_i, dGe_i, dLe_i, dEq_i, dNe_i, kv_len, g_seed, g_turn]
    refine dMul_i (Nat.lt_trans (l2_lt (k := 200) (by omega) (by omega) (by decide)) (by decide)) (by decide +kernel) ?_
    simp [SVd_f, SVd_o, SVd_b, dAdd_i, dSub_i, dInt_i, dLt_i, dGt_i, dGe_i, dLe_i, dEq_i, dNe_i]
    refine dMul_i (Nat.lt_trans (l2_lt (k := 200) (by omega) (by omega) (by decide)) (by decide)) (by decide +kernel) ?_
    simp [SVd_f, SVd_o, SVd_b, dAdd_i, dSub_i, dInt_i, dLt_i, dGt_i, dGe_i, dLe_i, dEq_i, dNe_i, S._law_mix]
    refine ⟨by omega, by omega, fun j j0 j1 => ?_⟩
    refine dMod_i (by omega) ?_
    obtain ⟨r, e1, e2⟩ := emod_nat (a := j) h2
    rw [e1]
    exact hp { z with t := z.t + 1 } r ⟨a1, a2, a3, ⟨by show (0 : Int) ≤ z.t + 1; omega, by show z.t + 1 + k ≤ 1000000; omega⟩, a6, a7⟩ e2
theorem at_ex {xs : List Int} {a : Int} (h0 : 0 ≤ a) (h1 : a < xs.length) : ∃ i, atI (xs.map D.int) a = some (.int i) := by
  obtain ⟨n, rfl⟩ : ∃ n : Nat, a = n := ⟨a.toNat, by omega⟩
  have hn : n < xs.length := by omega
  exact ⟨xs[n], by simp [atI, ixN, hn]⟩
theorem p__law_take : ∀ cs ds P, S._law_take cs ds P → cs.length = 1 ∧ cs.length + ds.length = 2 ∧ r__law_take (startD N__law_take cs ds) (endP 1 P) := by
  rintro _ _ P ⟨z, k, m, rfl, rfl, hz, hm, hp⟩
  refine ⟨rfl, rfl, ?_⟩
  have ⟨a1, a2, a3, ⟨a4, a5⟩, a6, a7⟩ := hz
  rw [show r__law_take = (dSeq (dIf (dOp dLtD (dVar 1) (dC (.int 2))) (dRet (dC (.int 0))) dPass) (dSeq (dSet 2 (dGetV 0 (dC (.str "cells")))) (dSeq (dSet 3 (dC (.int 0))) (dSeq (dIf (dAnd (dOp dEq (dGetV 0 (dC (.str "rest"))) (dC (.int 0))) (dOp dLtD (dGetV 0 (dC (.str "at"))) (dCall dLen (daCons (dVarV 2) daNil)))) (dSeq (dSet 4 (dCall dInt (daCons (dIxV 2 dIx (dGetV 0 (dC (.str "at")))) daNil))) (dSeq (dPutV 0 (dOp dAdd (dGetV 0 (dC (.str "at"))) (dC (.int 1))) (dC (.str "at"))) (dIf (dOp dGe (dVar 4) (dOp dPow (dC (.int 10)) (dC (.int 18)))) (dPutV 0 (dOp dMod (dVar 4) (dOp dMul2 (dOp dMul2 (dOp dMul2 (dOp dPow (dC (.int 10)) (dC (.int 64))) (dOp dPow (dC (.int 10)) (dC (.int 64)))) (dOp dPow (dC (.int 10)) (dC (.int 64)))) (dOp dPow (dC (.int 10)) (dC (.int 64))))) (dC (.str "rest"))) (dSet 3 (dOp dAdd (dC (.int 1)) (dOp dMod (dVar 4) (dC (.int 2305843009213693951)))))))) dPass) tkEnd)))) from rfl]
  simp [N__law_take, startD, endP, outs, dRet, dRetV, dsThen, dM1, dThen, daThen, dC, dLc, dItems, dVar, dVarV, still, D.items, D.isTxt, wipeD, SVd_f, SVd_o, SVd_b, SVm_f, SVm_o, SVm_b, SVp_f, SVp_o, SVp_b, dOp, dIn_s, dNotin_s, dEq_s, dEq_i, dEq_b, dNe_s, dNe_i, T_len, T_inj, dTT, lcTurn, gN, nbor, onB_bl, nborL, backD, T_subIn, dCall, daCons, daNil, dTup, dLst, dSeq, dIf, dPass, dSet, dDrop, dAsg, dOr, dAnd, dNot, dIfE, dIxV, dFn, dFnB, gT, gsCons, gsNil, SVd_f, SVd_o, SVd_b, dAdd_i, dSub_i, dInt_i, dLt_i, dGt_i, dGe_i, dLe_i, dEq_i, dNe_i]
  refine ifP (fun h => ?_) (fun h => ?_)
  · exact hp z 0 (hz.le (by omega)) (by omega)
  · have h2 : 2 ≤ m := by simp at h; omega
    simp [startD, endP, outs, dRet, dRetV, dsThen, dM1, dThen, daThen, dC, dLc, dItems, dVar, dVarV, still, D.items, D.isTxt, wipeD, SVd_f, SVd_o, SVd_b, SVm_f, SVm_o, SVm_b, SVp_f, SVp_o, SVp_b, dOp, dIn_s, dNotin_s, dEq_s, dEq_i, dEq_b, dNe_s, dNe_i, T_len, T_inj, dTT, lcTurn, gN, nbor, onB_bl, nborL, backD, T_subIn, dCall, daCons, daNil, dTup, dLst, dSeq, dIf, dPass, dSet, dDrop, dAsg, dOr, dAnd, dNot, dIfE, dIxV, dFn, dFnB, gT, gsCons, gsNil, dGetV, Sto.d, D.key?, g_cells, g_rest, g_at, dLt_i, dLen]
    by_cases hr : z.r = 0
    · simp [hr]
      refine ifP (fun ha => ?_) (fun ha => ?_)
      · have ha : z.a < z.xs.length := by simpa using ha
        obtain ⟨i, ei⟩ := at_ex a2 ha
        simp [startD, endP, outs, dRet, dRetV, dsThen, dM1, dThen, daThen, dC, dLc, dItems, dVar, dVarV, still, D.items, D.isTxt, wipeD, SVd_f, SVd_o, SVd_b, SVm_f, SVm_o, SVm_b, SVp_f, SVp_o, SVp_b, dOp, dIn_s, dNotin_s, dEq_s, dEq_i, dEq_b, dNe_s, dNe_i, T_len, T_inj, dTT, lcTurn, gN, nbor, onB_bl, nborL, backD, T_subIn, dCall, daCons, daNil, dTup, dLst, dSeq, dIf, dPass, dSet, dDrop, dAsg, dOr, dAnd, dNot, dIfE, dIxV, dFn, dFnB, gT, gsCons, gsNil, dGetV, Sto.d, D.key?, g_cells, g_rest, g_at, dLt_i, dLen, dIx, ei, dInt_i, dPutV, dAdd_i, p_at, p_rest, kv_len, dPow, dGe_i]
        refine ifP (fun hi => ?_) (fun hi => ?_)
        · refine dMul_i (by decide +kernel) (by decide +kernel) ?_
          refine dMul_i (by decide +kernel) (by decide +kernel) ?_
          refine dMul_i (by decide +kernel) (by decide +kernel) ?_
          refine dMod_i (by decide +kernel) ?_
          have hx : (0 : Int) < 10000000000000000000000000000000000000000000000000000000000000000 * 10000000000000000000000000000000000000000000000000000000000000000 * 10000000000000000000000000000000000000000000000000000000000000000 * 10000000000000000000000000000000000000000000000000000000000000000 := by decide +kernel
          exact tk_end (z := { z with a := z.a + 1, r := i % (10000000000000000000000000000000000000000000000000000000000000000 * 10000000000000000000000000000000000000000000000000000000000000000 * 10000000000000000000000000000000000000000000000000000000000000000 * 10000000000000000000000000000000000000000000000000000000000000000) }) ⟨a1, by show (0 : Int) ≤ z.a + 1; omega, Int.emod_nonneg _ (Int.ne_of_gt hx), ⟨a4, a5⟩, a6, a7⟩ h2 hm (by decide) (by decide) hp
        · refine dMod_i (by decide) ?_
          simp [SVd_f, SVd_o, SVd_b, dAdd_i, dSub_i, dInt_i, dLt_i, dGt_i, dGe_i, dLe_i, dEq_i, dNe_i]
          refine tk_end (z := { z with a := z.a + 1 }) ⟨a1, by show (0 : Int) ≤ z.a + 1; omega, a3, ⟨a4, a5⟩, a6, a7⟩ h2 hm (by omega) (by omega) hp
      · exact tk_end (o4 := none) hz h2 hm (by decide) (by decide) hp
    · simp [hr]
      exact tk_end (o4 := none) hz h2 hm (by decide) (by decide) hp
end K01

set_option Elab.async false
set_option linter.all false
set_option maxRecDepth 100000
set_option maxHeartbeats 4000000
namespace K01
open PySem PySem.Spec L2 Ow
set_option autoImplicit false
theorem use_take {z : Sto} {k m : Nat} {P : O → List D → Prop} (h : z.ok (k + 1)) (hm : m < 2 ^ 62) (hp : ∀ (z' : Sto) (r : Nat), z'.ok k → r < max m 1 → P (.ok (.frz (.int r))) [z'.d]) : S._law_take [z.d] [.int m] P := ⟨z, k, m, rfl, rfl, h, hm, hp⟩
/-- a draw out of a fixed number of things -/
theorem use_taken {z : Sto} {k m : Nat} {i : Int} {P : O → List D → Prop} (h : z.ok (k + 1)) (hi : i = m) (hm : m < 2 ^ 62) (hp : ∀ (z' : Sto) (r : Nat), z'.ok k → r < max m 1 → P (.ok (.frz (.int r))) [z'.d]) : S._law_take [z.d] [.int i] P := by
  subst hi
  exact use_take h hm hp
namespace S
def _law_store : DSp := fun cs ds P => ∃ xs : List Int, cs = [] ∧ (ds = [.lst (xs.map .int)] ∨ ds = [.arr (xs.map .int)]) ∧ xs.length ≤ 63 ∧ ∀ z : Sto, z.ok 900000 → P (.ok (.own z.d)) []
def _law_pick : DSp := fun cs ds P => ∃ (z : Sto) (k : Nat), cs = [z.d] ∧ z.ok (k + 1) ∧ ((∃ l : List Nat, ds = [tD l] ∧ l ≠ [] ∧ l.length ≤ 1000 ∧ ∀ c ∈ l, ∀ z' : Sto, z'.ok k → P (.ok (.frz (sgn c))) [z'.d]) ∨ (∃ l : List D, ds = [.lst l] ∧ l ≠ [] ∧ l.length ≤ 1000 ∧ ∀ d ∈ l, ∀ z' : Sto, z'.ok k → P (.ok (.frz d)) [z'.d]))
def _law_lot : DSp := fun cs ds P => ∃ (z : Sto) (k : Nat) (f : List Nat), cs = [z.d] ∧ ds = [tD f] ∧ z.ok (k + 7) ∧ f.length ≤ 6 ∧ ∀ (z' : Sto) (t : List Nat), (∀ c ∈ t, c ∈ f) → t.length ≤ 6 → z'.ok k → P (.ok (.frz (tD t))) [z'.d]
def _law_shuffled : DSp := fun cs ds P => ∃ (z : Sto) (k : Nat) (f : List Nat), cs = [z.d] ∧ ds = [tD f] ∧ z.ok (k + 6) ∧ f.length ≤ 6 ∧ ∀ (z' : Sto) (l : List Nat), l.Perm f → z'.ok k → P (.ok (.own (.lst (l.map sgn)))) [z'.d]
end S
def r__law_store : DS := (dSeq (dSet 1 (dCall dLen (daCons (dVarV 0) daNil))) (dSeq (dFor (dItems (dVar 0)) (gN 2) (dSet 1 (dOp dMod (dCall dInt (daCons (dOp dAdd (dOp dAdd (dOp dMul2 (dVar 1) (dC (.int 48271))) (dOp dMod (dCall dInt (daCons (dVarV 2) daNil)) (dC (.int 2305843009213693951)))) (dC (.int 1))) daNil)) (dC (.int 2305843009213693951))))) (dRet (dDisp [((Sum.inr "cells"), (dCall dList (daCons (dVarV 0) daNil))), ((Sum.inr "at"), (dC (.int 0))), ((Sum.inr "rest"), (dC (.int 0))), ((Sum.inr "turn"), (dC (.int 0))), ((Sum.inr "seed"), (dFn S._law_mix (daCons (dVar 1) daNil)))]))))
def N__law_store : List Str := ["script", "seed", "cell"]
def r__law_pick : DS := (dRet (dIxV 1 dIx (dFnB S._law_take 0 (daCons (dCall dLen (daCons (dVarV 1) daNil)) daNil))))
def N__law_pick : List Str := ["store", "things"]
def r__law_lot : DS := (dSeq (dSet 2 (dFnB S._law_take 0 (daCons (dC (.int 9)) daNil))) (dSeq (dIf (dOp dEq (dVar 2) (dC (.int 0))) (dRet (dC (.str ""))) dPass) (dSeq (dIf (dOp dEq (dVar 2) (dC (.int 1))) (dRetV 1) dPass) (dSeq (dIf (dAnd (dOp dEq (dVar 2) (dC (.int 2))) (dOp dNe (dVar 1) (dC (.str "")))) (dRet (dFnB S._law_pick 0 (daCons (dVar 1) daNil))) dPass) (dRet (dM1 jJoin (dC (.str "")) (dLc (dItems (dVar 1)) [3] (gN 3) (some (dOp dEq (dFnB S._law_take 0 (daCons (dC (.int 2)) daNil)) (dC (.int 1)))) (dVar 3))))))))
def N__law_lot : List Str := ["store", "fields", "kind", "field"]
def r__law_shuffled : DS := (dSeq (dSet 2 (dCall dList (daCons (dVarV 1) daNil))) (dSeq (dSet 3 (dLst daNil)) (dSeq (dFor (daMap (daCons (dCall dLen (daCons (dVarV 1) daNil)) daNil) kRng1) (gN 4) (dDrop (dMut 3 xAppend (daCons (dMut 2 xPop (daCons (dFnB S._law_take 0 (daCons (dCall dLen (daCons (dVarV 2) daNil)) daNil)) daNil)) daNil)))) (dRetV 3))))
def N__law_shuffled : List Str := ["store", "things", "left", "found", "count"]
def stB : DS := (dSet 1 (dOp dMod (dCall dInt (daCons (dOp dAdd (dOp dAdd (dOp dMul2 (dVar 1) (dC (.int 48271))) (dOp dMod (dCall dInt (daCons (dVarV 2) daNil)) (dC (.int 2305843009213693951)))) (dC (.int 1))) daNil)) (dC (.int 2305843009213693951))))
theorem st_b {d0 : D} {m i : Int} {K : SO → Ow.Env → Prop} (h0 : 0 ≤ m) (h1 : m < 2 ^ 61) (hk : ∀ m' : Int, 0 ≤ m' → m' < 2 ^ 61 → K .nx [some (.frz d0), some (.frz (.int m')), some (.frz (.int i))]) : stB [some (.frz d0), some (.frz (.int m)), some (.frz (.int i))] K := by
  simp [stB, startD, endP, outs, dRet, dRetV, dsThen, dM1, dThen, daThen, dC, dLc, dItems, dVar, dVarV, still, D.items, D.isTxt, wipeD, SVd_f, SVd_o, SVd_b, SVm_f, SVm_o, SVm_b, SVp_f, SVp_o, SVp_b, dOp, dIn_s, dNotin_s, dEq_s, dEq_i, dEq_b, dNe_s, dNe_i, T_len, T_inj, dTT, lcTurn, gN, nbor, onB_bl, nborL, backD, T_subIn, dCall, daCons, daNil, dTup, dLst, dSeq, dIf, dPass, dSet, dDrop, dAsg, dOr, dAnd, dNot, dIfE, dIxV, dFn, dFnB, gT, gsCons, gsNil, SVd_f, SVd_o, SVd_b, dAdd_i, dSub_i, dInt_i, dLt_i, dGt_i, dGe_i, dLe_i, dEq_i, dNe_i]
  refine dMul_i (Nat.lt_trans (l2_lt (k := 200) (by omega) (by omega) (by decide)) (by decide)) (by decide +kernel) ?_
  refine dMod_i (by decide) ?_
  simp [SVd_f, SVd_o, SVd_b, dAdd_i, dSub_i, dInt_i, dLt_i, dGt_i, dGe_i, dLe_i, dEq_i, dNe_i]
  refine dMod_i (by decide) ?_
  exact hk _ (Int.emod_nonneg _ (by decide)) (Int.lt_of_lt_of_le (Int.emod_lt_of_pos _ (by decide)) (by decide))
theorem st_go {d0 : D} (hd : ∃ xs : List Int, (d0 = .lst (xs.map .int) ∨ d0 = .arr (xs.map .int)) ∧ xs.length ≤ 63) {P : O → List D → Prop} (hp : ∀ z : Sto, z.ok 900000 → P (.ok (.own z.d)) []) :
    r__law_store [some (.frz d0), none, none] (endP 0 P) := by
  obtain ⟨xs, hd, hl⟩ := hd
  rw [show r__law_store = (dSeq (dSet 1 (dCall dLen (daCons (dVarV 0) daNil))) (dSeq (dFor (dItems (dVar 0)) (gN 2) stB) (dRet (dDisp [((Sum.inr "cells"), (dCall dList (daCons (dVarV 0) daNil))), ((Sum.inr "at"), (dC (.int 0))), ((Sum.inr "rest"), (dC (.int 0))), ((Sum.inr "turn"), (dC (.int 0))), ((Sum.inr "seed"), (dFn S._law_mix (daCons (dVar 1) daNil)))])))) from rfl]
  have h1 : D.items d0 = some (xs.map .int) := by rcases hd with rfl | rfl <;> rfl
  have h2 : ∀ P : SV → Prop, P (.frz (.int xs.length)) → dLen [d0] P := by
    intro P h
    rcases hd with rfl | rfl <;> simpa [dLen] using h
  have h3 : ∀ P : SV → Prop, P (.own (.lst (xs.map .int))) → dList [d0] P := by
    intro P h
    rcases hd with rfl | rfl <;> simpa [dList] using h
  simp [startD, endP, outs, dRet, dRetV, dsThen, dM1, dThen, daThen, dC, dLc, dItems, dVar, dVarV, still, D.items, D.isTxt, wipeD, SVd_f, SVd_o, SVd_b, SVm_f, SVm_o, SVm_b, SVp_f, SVp_o, SVp_b, dOp, dIn_s, dNotin_s, dEq_s, dEq_i, dEq_b, dNe_s, dNe_i, T_len, T_inj, dTT, lcTurn, gN, nbor, onB_bl, nborL, backD, T_subIn, dCall, daCons, daNil, dTup, dLst, dSeq, dIf, dPass, dSet, dDrop, dAsg, dOr, dAnd, dNot, dIfE, dIxV, dFn, dFnB, gT, gsCons, gsNil, SVd_f, SVd_o, SVd_b, dAdd_i, dSub_i, dInt_i, dLt_i, dGt_i, dGe_i, dLe_i, dEq_i, dNe_i]
  refine h2 _ ?_
  simp [startD, endP, outs, dRet, dRetV, dsThen, dM1, dThen, daThen, dC, dLc, dItems, dVar, dVarV, still, D.items, D.isTxt, wipeD, SVd_f, SVd_o, SVd_b, SVm_f, SVm_o, SVm_b, SVp_f, SVp_o, SVp_b, dOp, dIn_s, dNotin_s, dEq_s, dEq_i, dEq_b, dNe_s, dNe_i, T_len, T_inj, dTT, lcTurn, gN, nbor, onB_bl, nborL, backD, T_subIn, dCall, daCons, daNil, dTup, dLst, dSeq, dIf, dPass, dSet, dDrop, dAsg, dOr, dAnd, dNot, dIfE, dIxV, dFn, dFnB, gT, gsCons, gsNil, dFor]
  refine ⟨_, h1, ?_⟩
  refine forInv (fun r ρ => ∃ (m : Int) (o2 : Option D), ρ = [some (.frz d0), some (.frz (.int m)), o2.map SV.frz] ∧ 0 ≤ m ∧ m < 2 ^ 61) (fun n r ρ hi K hk' hr => ?_) xs _ ⟨xs.length, none, rfl, by omega, by omega⟩ (fun ρ hi => ?_)
  · obtain ⟨m, o2, rfl, i1, i2⟩ := hi
    simp only [gN]
    refine ⟨by cases o2 <;> simp [nbor], ?_⟩
    refine st_b i1 i2 fun m' j0 j1 => ?_
    exact hk' _ ⟨m', some (.int n), rfl, j0, j1⟩
  · obtain ⟨m, o2, rfl, i1, i2⟩ := hi
    simp [startD, endP, outs, dRet, dRetV, dsThen, dM1, dThen, daThen, dC, dLc, dItems, dVar, dVarV, still, D.items, D.isTxt, wipeD, SVd_f, SVd_o, SVd_b, SVm_f, SVm_o, SVm_b, SVp_f, SVp_o, SVp_b, dOp, dIn_s, dNotin_s, dEq_s, dEq_i, dEq_b, dNe_s, dNe_i, T_len, T_inj, dTT, lcTurn, gN, nbor, onB_bl, nborL, backD, T_subIn, dCall, daCons, daNil, dTup, dLst, dSeq, dIf, dPass, dSet, dDrop, dAsg, dOr, dAnd, dNot, dIfE, dIxV, dFn, dFnB, gT, gsCons, gsNil, dDisp, dPairs]
    refine h3 _ ?_
    simp [startD, endP, outs, dRet, dRetV, dsThen, dM1, dThen, daThen, dC, dLc, dItems, dVar, dVarV, still, D.items, D.isTxt, wipeD, SVd_f, SVd_o, SVd_b, SVm_f, SVm_o, SVm_b, SVp_f, SVp_o, SVp_b, dOp, dIn_s, dNotin_s, dEq_s, dEq_i, dEq_b, dNe_s, dNe_i, T_len, T_inj, dTT, lcTurn, gN, nbor, onB_bl, nborL, backD, T_subIn, dCall, daCons, daNil, dTup, dLst, dSeq, dIf, dPass, dSet, dDrop, dAsg, dOr, dAnd, dNot, dIfE, dIxV, dFn, dFnB, gT, gsCons, gsNil, S._law_mix]
    refine ⟨i1, by omega, fun j j0 j1 => ?_⟩
    exact hp ⟨xs, 0, 0, 0, j⟩ ⟨hl, Int.le_refl 0, Int.le_refl 0, ⟨Int.le_refl 0, by show (0 : Int) + (900000 : Nat) ≤ 1000000; decide⟩, j0, j1⟩
theorem p__law_store : ∀ cs ds P, S._law_store cs ds P → cs.length = 0 ∧ cs.length + ds.length = 1 ∧ r__law_store (startD N__law_store cs ds) (endP 0 P) := by
  rintro _ _ P ⟨xs, rfl, hd, hl, hp⟩
  rcases hd with rfl | rfl
  · exact ⟨rfl, rfl, st_go ⟨xs, .inl rfl, hl⟩ hp⟩
  · exact ⟨rfl, rfl, st_go ⟨xs, .inr rfl, hl⟩ hp⟩
theorem atI_nat {α : Type} {l : List α} {r : Nat} (h : r < l.length) : atI l (r : Int) = some l[r] := by
  simp [atI, ixN, h]
theorem p__law_pick : ∀ cs ds P, S._law_pick cs ds P → cs.length = 1 ∧ cs.length + ds.length = 2 ∧ r__law_pick (startD N__law_pick cs ds) (endP 1 P) := by
  rintro _ _ P ⟨z, k, rfl, hz, ⟨l, rfl, h1, h2, hp⟩ | ⟨l, rfl, h1, h2, hp⟩⟩
  · refine ⟨rfl, rfl, ?_⟩
    have h3 : 0 < l.length := List.length_pos_iff.mpr h1
    simp [r__law_pick, N__law_pick, startD, endP, outs, dRet, dRetV, dsThen, dM1, dThen, daThen, dC, dLc, dItems, dVar, dVarV, still, D.items, D.isTxt, wipeD, SVd_f, SVd_o, SVd_b, SVm_f, SVm_o, SVm_b, SVp_f, SVp_o, SVp_b, dOp, dIn_s, dNotin_s, dEq_s, dEq_i, dEq_b, dNe_s, dNe_i, T_len, T_inj, dTT, lcTurn, gN, nbor, onB_bl, nborL, backD, T_subIn, dCall, daCons, daNil, dTup, dLst, dSeq, dIf, dPass, dSet, dDrop, dAsg, dOr, dAnd, dNot, dIfE, dIxV, dFn, dFnB, gT, gsCons, gsNil, SVd_f, SVd_o, SVd_b, dAdd_i, dSub_i, dInt_i, dLt_i, dGt_i, dGe_i, dLe_i, dEq_i, dNe_i, dLen]
    refine ⟨by unfold sizeLine; omega, ?_⟩
    refine use_take (m := l.length) hz (by omega) fun z' r hz' hr => ?_
    have hr : r < l.length := by omega
    simp [startD, endP, outs, dRet, dRetV, dsThen, dM1, dThen, daThen, dC, dLc, dItems, dVar, dVarV, still, D.items, D.isTxt, wipeD, SVd_f, SVd_o, SVd_b, SVm_f, SVm_o, SVm_b, SVp_f, SVp_o, SVp_b, dOp, dIn_s, dNotin_s, dEq_s, dEq_i, dEq_b, dNe_s, dNe_i, T_len, T_inj, dTT, lcTurn, gN, nbor, onB_bl, nborL, backD, T_subIn, dCall, daCons, daNil, dTup, dLst, dSeq, dIf, dPass, dSet, dDrop, dAsg, dOr, dAnd, dNot, dIfE, dIxV, dFn, dFnB, gT, gsCons, gsNil, dIx, atI_nat hr]
    exact ⟨by unfold sizeLine; omega, hp _ (List.getElem_mem hr) z' hz'⟩
  · refine ⟨rfl, rfl, ?_⟩
    have h3 : 0 < l.length := List.length_pos_iff.mpr h1
    simp [r__law_pick, N__law_pick, startD, endP, outs, dRet, dRetV, dsThen, dM1, dThen, daThen, dC, dLc, dItems, dVar, dVarV, still, D.items, D.isTxt, wipeD, SVd_f, SVd_o, SVd_b, SVm_f, SVm_o, SVm_b, SVp_f, SVp_o, SVp_b, dOp, dIn_s, dNotin_s, dEq_s, dEq_i, dEq_b, dNe_s, dNe_i, T_len, T_inj, dTT, lcTurn, gN, nbor, onB_bl, nborL, backD, T_subIn, dCall, daCons, daNil, dTup, dLst, dSeq, dIf, dPass, dSet, dDrop, dAsg, dOr, dAnd, dNot, dIfE, dIxV, dFn, dFnB, gT, gsCons, gsNil, SVd_f, SVd_o, SVd_b, dAdd_i, dSub_i, dInt_i, dLt_i, dGt_i, dGe_i, dLe_i, dEq_i, dNe_i, dLen]
    refine use_take (m := l.length) hz (by omega) fun z' r hz' hr => ?_
    have hr : r < l.length := by omega
    simp [startD, endP, outs, dRet, dRetV, dsThen, dM1, dThen, daThen, dC, dLc, dItems, dVar, dVarV, still, D.items, D.isTxt, wipeD, SVd_f, SVd_o, SVd_b, SVm_f, SVm_o, SVm_b, SVp_f, SVp_o, SVp_b, dOp, dIn_s, dNotin_s, dEq_s, dEq_i, dEq_b, dNe_s, dNe_i, T_len, T_inj, dTT, lcTurn, gN, nbor, onB_bl, nborL, backD, T_subIn, dCall, daCons, daNil, dTup, dLst, dSeq, dIf, dPass, dSet, dDrop, dAsg, dOr, dAnd, dNot, dIfE, dIxV, dFn, dFnB, gT, gsCons, gsNil, dIx, atI_nat hr]
    exact hp _ (List.getElem_mem hr) z' hz'
theorem lot_lc {z : Sto} {k : Nat} {f : List Nat} {d2 : D} {Q : O → Ow.Env → Prop} (hz : z.ok (k + 6)) (hf : f.length ≤ 6) (hq : ∀ (z' : Sto) (t : List Nat), (∀ c ∈ t, c ∈ f) → t.length ≤ 6 → z'.ok k → Q (.ok (.own (.lst (t.map sgn)))) [some (.bor z'.d), some (.frz (tD f)), some (.frz d2), none]) :
    dLcGo [3] (gN 3) (some (dOp dEq (dFnB S._law_take 0 (daCons (dC (.int 2)) daNil)) (dC (.int 1)))) (dVar 3) (signsOf (T f)) [] [some (.bor z.d), some (.frz (tD f)), some (.frz d2), none] Q := by
  rw [T_signs]
  refine lcInv (fun r acc ρ => ∃ (z' : Sto) (t : List Nat), acc = t.map sgn ∧ ρ = [some (.bor z'.d), some (.frz (tD f)), some (.frz d2), none] ∧ (∀ c ∈ t, c ∈ f) ∧ (∀ c ∈ r, c ∈ f) ∧ t.length + r.length ≤ 6 ∧ z'.ok (k + r.length))
    (fun c r acc ρ hi K k1 k2 => ?_) f [] _ ⟨z, [], rfl, rfl, by simp, by simp, by simpa using hf, hz.le (by omega)⟩ (by unfold sizeLine; simp; omega) (fun acc ρ hi => ?_)
  · obtain ⟨z', t, rfl, rfl, i1, i2, i3, i4⟩ := hi
    simp only [List.length_cons] at i3 i4
    simp [startD, endP, outs, dRet, dRetV, dsThen, dM1, dThen, daThen, dC, dLc, dItems, dVar, dVarV, still, D.items, D.isTxt, wipeD, SVd_f, SVd_o, SVd_b, SVm_f, SVm_o, SVm_b, SVp_f, SVp_o, SVp_b, dOp, dIn_s, dNotin_s, dEq_s, dEq_i, dEq_b, dNe_s, dNe_i, T_len, T_inj, dTT, lcTurn, gN, nbor, onB_bl, nborL, backD, T_subIn, dCall, daCons, daNil, dTup, dLst, dSeq, dIf, dPass, dSet, dDrop, dAsg, dOr, dAnd, dNot, dIfE, dIxV, dFn, dFnB, gT, gsCons, gsNil, SVd_f, SVd_o, SVd_b, dAdd_i, dSub_i, dInt_i, dLt_i, dGt_i, dGe_i, dLe_i, dEq_i, dNe_i]
    refine use_taken (m := 2) i4 rfl (by decide) fun z2 n hz2 hn => ?_
    simp [startD, endP, outs, dRet, dRetV, dsThen, dM1, dThen, daThen, dC, dLc, dItems, dVar, dVarV, still, D.items, D.isTxt, wipeD, SVd_f, SVd_o, SVd_b, SVm_f, SVm_o, SVm_b, SVp_f, SVp_o, SVp_b, dOp, dIn_s, dNotin_s, dEq_s, dEq_i, dEq_b, dNe_s, dNe_i, T_len, T_inj, dTT, lcTurn, gN, nbor, onB_bl, nborL, backD, T_subIn, dCall, daCons, daNil, dTup, dLst, dSeq, dIf, dPass, dSet, dDrop, dAsg, dOr, dAnd, dNot, dIfE, dIxV, dFn, dFnB, gT, gsCons, gsNil, SVd_f, SVd_o, SVd_b, dAdd_i, dSub_i, dInt_i, dLt_i, dGt_i, dGe_i, dLe_i, dEq_i, dNe_i]
    refine ifP (fun h => ?_) (fun h => ?_)
    · exact k1 _ _ ⟨z2, t ++ [c], by simp, rfl, by
        intro x hx
        rcases List.mem_append.mp hx with h | h
        · exact i1 x h
        · simp at h; subst h; exact i2 x (by simp), fun x hx => i2 x (by simp [hx]), by simp; omega, hz2⟩
    · exact k2 _ ⟨z2, t, rfl, rfl, i1, fun x hx => i2 x (by simp [hx]), by omega, hz2⟩
  · obtain ⟨z', t, rfl, rfl, i1, i2, i3, i4⟩ := hi
    exact hq z' t i1 (by simpa using i3) i4
theorem p__law_lot : ∀ cs ds P, S._law_lot cs ds P → cs.length = 1 ∧ cs.length + ds.length = 2 ∧ r__law_lot (startD N__law_lot cs ds) (endP 1 P) := by
  rintro _ _ P ⟨z, k, f, rfl, rfl, hz, hf, hp⟩
  refine ⟨rfl, rfl, ?_⟩
  simp [r__law_lot, N__law_lot, startD, endP, outs, dRet, dRetV, dsThen, dM1, dThen, daThen, dC, dLc, dItems, dVar, dVarV, still, D.items, D.isTxt, wipeD, SVd_f, SVd_o, SVd_b, SVm_f, SVm_o, SVm_b, SVp_f, SVp_o, SVp_b, dOp, dIn_s, dNotin_s, dEq_s, dEq_i, dEq_b, dNe_s, dNe_i, T_len, T_inj, dTT, lcTurn, gN, nbor, onB_bl, nborL, backD, T_subIn, dCall, daCons, daNil, dTup, dLst, dSeq, dIf, dPass, dSet, dDrop, dAsg, dOr, dAnd, dNot, dIfE, dIxV, dFn, dFnB, gT, gsCons, gsNil, SVd_f, SVd_o, SVd_b, dAdd_i, dSub_i, dInt_i, dLt_i, dGt_i, dGe_i, dLe_i, dEq_i, dNe_i]
  refine use_taken (m := 9) (k := k + 6) hz rfl (by decide) fun z1 r hz1 hr => ?_
  simp [startD, endP, outs, dRet, dRetV, dsThen, dM1, dThen, daThen, dC, dLc, dItems, dVar, dVarV, still, D.items, D.isTxt, wipeD, SVd_f, SVd_o, SVd_b, SVm_f, SVm_o, SVm_b, SVp_f, SVp_o, SVp_b, dOp, dIn_s, dNotin_s, dEq_s, dEq_i, dEq_b, dNe_s, dNe_i, T_len, T_inj, dTT, lcTurn, gN, nbor, onB_bl, nborL, backD, T_subIn, dCall, daCons, daNil, dTup, dLst, dSeq, dIf, dPass, dSet, dDrop, dAsg, dOr, dAnd, dNot, dIfE, dIxV, dFn, dFnB, gT, gsCons, gsNil, SVd_f, SVd_o, SVd_b, dAdd_i, dSub_i, dInt_i, dLt_i, dGt_i, dGe_i, dLe_i, dEq_i, dNe_i]
  refine ifP (fun h0 => hp z1 [] (by simp) (by simp) (hz1.le (by omega))) (fun h0 => ?_)
  refine ifP (fun h1 => hp z1 f (by simp) hf (hz1.le (by omega))) (fun h1 => ?_)
  refine ifP (fun h2 => ?_) (fun h2 => ?_)
  · refine ifP (fun hn => ?_) (fun hn => ?_)
    · refine lot_lc (k := k) hz1 hf fun z' t i1 i2 i3 => ?_
      simp [startD, endP, outs, dRet, dRetV, dsThen, dM1, dThen, daThen, dC, dLc, dItems, dVar, dVarV, still, D.items, D.isTxt, wipeD, SVd_f, SVd_o, SVd_b, SVm_f, SVm_o, SVm_b, SVp_f, SVp_o, SVp_b, dOp, dIn_s, dNotin_s, dEq_s, dEq_i, dEq_b, dNe_s, dNe_i, T_len, T_inj, dTT, lcTurn, gN, nbor, onB_bl, nborL, backD, T_subIn, dCall, daCons, daNil, dTup, dLst, dSeq, dIf, dPass, dSet, dDrop, dAsg, dOr, dAnd, dNot, dIfE, dIxV, dFn, dFnB, gT, gsCons, gsNil]
      rw [empty_T]
      exact jJoin_signs (by omega) (hp z' t i1 i2 i3)
    · rw [empty_T, T_inj] at hn
      refine ⟨z1, k + 5, rfl, hz1, .inl ⟨f, rfl, hn, by omega, fun c hc z' hz' => ?_⟩⟩
      simp
      exact hp z' [c] (by simpa using hc) (by simp) (hz'.le (by omega))
  · refine lot_lc (k := k) hz1 hf fun z' t i1 i2 i3 => ?_
    simp [startD, endP, outs, dRet, dRetV, dsThen, dM1, dThen, daThen, dC, dLc, dItems, dVar, dVarV, still, D.items, D.isTxt, wipeD, SVd_f, SVd_o, SVd_b, SVm_f, SVm_o, SVm_b, SVp_f, SVp_o, SVp_b, dOp, dIn_s, dNotin_s, dEq_s, dEq_i, dEq_b, dNe_s, dNe_i, T_len, T_inj, dTT, lcTurn, gN, nbor, onB_bl, nborL, backD, T_subIn, dCall, daCons, daNil, dTup, dLst, dSeq, dIf, dPass, dSet, dDrop, dAsg, dOr, dAnd, dNot, dIfE, dIxV, dFn, dFnB, gT, gsCons, gsNil]
    rw [empty_T]
    exact jJoin_signs (by omega) (hp z' t i1 i2 i3)
theorem eraseIdx_map {α β : Type} (g : α → β) : ∀ (l : List α) (n : Nat), (l.map g).eraseIdx n = (l.eraseIdx n).map g
  | [], _ => rfl
  | _ :: _, 0 => rfl
  | a :: l, n + 1 => by simp [List.eraseIdx, eraseIdx_map g l n]
theorem erase_perm {α : Type} : ∀ (l : List α) (n : Nat) (h : n < l.length), (l.eraseIdx n ++ [l[n]]).Perm l
  | a :: l, 0, _ => by
    simp [List.eraseIdx]
  | a :: l, n + 1, h => by
    simp only [List.eraseIdx, List.cons_append, List.getElem_cons_succ]
    exact (erase_perm l n (by simpa using h)).cons a
theorem seq_nat {n l : Nat} (h : n < l) : seqIndex? (n : Int) l = some n := by
  unfold seqIndex?
  simp
  omega
abbrev sfE (z : Sto) (f left found : List Nat) (o4 : Option D) : Ow.Env := [some (.bor z.d), some (.frz (tD f)), some (.own (.lst (left.map sgn))), some (.own (.lst (found.map sgn))), o4.map SV.frz]
def sfB : DS := (dDrop (dMut 3 xAppend (daCons (dMut 2 xPop (daCons (dFnB S._law_take 0 (daCons (dCall dLen (daCons (dVarV 2) daNil)) daNil)) daNil)) daNil)))
theorem sf_b {z : Sto} {k : Nat} {f left found : List Nat} {o4 : Option D} {K : SO → Ow.Env → Prop} (hz : z.ok (k + 1)) (h1 : left ≠ []) (h2 : left.length ≤ 6) (h3 : found.length ≤ 6) (hk : ∀ (z' : Sto) (n : Nat) (h : n < left.length), z'.ok k → K .nx (sfE z' f (left.eraseIdx n) (found ++ [left[n]]) o4)) : sfB (sfE z f left found o4) K := by
  have h4 : 0 < left.length := List.length_pos_iff.mpr h1
  simp [sfB, sfE, startD, endP, outs, dRet, dRetV, dsThen, dM1, dThen, daThen, dC, dLc, dItems, dVar, dVarV, still, D.items, D.isTxt, wipeD, SVd_f, SVd_o, SVd_b, SVm_f, SVm_o, SVm_b, SVp_f, SVp_o, SVp_b, dOp, dIn_s, dNotin_s, dEq_s, dEq_i, dEq_b, dNe_s, dNe_i, T_len, T_inj, dTT, lcTurn, gN, nbor, onB_bl, nborL, backD, T_subIn, dCall, daCons, daNil, dTup, dLst, dSeq, dIf, dPass, dSet, dDrop, dAsg, dOr, dAnd, dNot, dIfE, dIxV, dFn, dFnB, gT, gsCons, gsNil, SVd_f, SVd_o, SVd_b, dAdd_i, dSub_i, dInt_i, dLt_i, dGt_i, dGe_i, dLe_i, dEq_i, dNe_i, dMut, dLen]
  refine use_take (m := left.length) hz (by omega) fun z' r hz' hr => ?_
  have hr : r < left.length := by omega
  have z := hk z' r hr hz'
  simp [startD, endP, outs, dRet, dRetV, dsThen, dM1, dThen, daThen, dC, dLc, dItems, dVar, dVarV, still, D.items, D.isTxt, wipeD, SVd_f, SVd_o, SVd_b, SVm_f, SVm_o, SVm_b, SVp_f, SVp_o, SVp_b, dOp, dIn_s, dNotin_s, dEq_s, dEq_i, dEq_b, dNe_s, dNe_i, T_len, T_inj, dTT, lcTurn, gN, nbor, onB_bl, nborL, backD, T_subIn, dCall, daCons, daNil, dTup, dLst, dSeq, dIf, dPass, dSet, dDrop, dAsg, dOr, dAnd, dNot, dIfE, dIxV, dFn, dFnB, gT, gsCons, gsNil, SVd_f, SVd_o, SVd_b, dAdd_i, dSub_i, dInt_i, dLt_i, dGt_i, dGe_i, dLe_i, dEq_i, dNe_i, xPop, seq_nat hr, hr, xAppend]
  refine ⟨by omega, by unfold sizeLine; omega, ?_⟩
  rw [eraseIdx_map]
  simpa [sfE] using z
theorem p__law_shuffled : ∀ cs ds P, S._law_shuffled cs ds P → cs.length = 1 ∧ cs.length + ds.length = 2 ∧ r__law_shuffled (startD N__law_shuffled cs ds) (endP 1 P) := by
  rintro _ _ P ⟨z, k, f, rfl, rfl, hz, hf, hp⟩
  refine ⟨rfl, rfl, ?_⟩
  rw [show r__law_shuffled = (dSeq (dSet 2 (dCall dList (daCons (dVarV 1) daNil))) (dSeq (dSet 3 (dLst daNil)) (dSeq (dFor (daMap (daCons (dCall dLen (daCons (dVarV 1) daNil)) daNil) kRng1) (gN 4) sfB) (dRetV 3)))) from rfl]
  simp [N__law_shuffled, startD, endP, outs, dRet, dRetV, dsThen, dM1, dThen, daThen, dC, dLc, dItems, dVar, dVarV, still, D.items, D.isTxt, wipeD, SVd_f, SVd_o, SVd_b, SVm_f, SVm_o, SVm_b, SVp_f, SVp_o, SVp_b, dOp, dIn_s, dNotin_s, dEq_s, dEq_i, dEq_b, dNe_s, dNe_i, T_len, T_inj, dTT, lcTurn, gN, nbor, onB_bl, nborL, backD, T_subIn, dCall, daCons, daNil, dTup, dLst, dSeq, dIf, dPass, dSet, dDrop, dAsg, dOr, dAnd, dNot, dIfE, dIxV, dFn, dFnB, gT, gsCons, gsNil, SVd_f, SVd_o, SVd_b, dAdd_i, dSub_i, dInt_i, dLt_i, dGt_i, dGe_i, dLe_i, dEq_i, dNe_i, dList, dFor, daMap, dLen, kRng1, range_n]
  refine ⟨by unfold sizeLine; omega, by omega, ?_⟩
  rw [T_signs]
  refine forInv (fun r ρ => ∃ (z' : Sto) (left found : List Nat) (o4 : Option D), ρ = sfE z' f left found o4 ∧ left.length = r.length ∧ (left ++ found).Perm f ∧ z'.ok (k + r.length)) (fun c r ρ hi K hk' hr => ?_) (List.range f.length) _ ⟨z, f, [], none, rfl, by simp, by simp, hz.le (by simp; omega)⟩ (fun ρ hi => ?_)
  · obtain ⟨z', left, found, o4, rfl, i1, i2, i3⟩ := hi
    have hl := i2.length_eq
    simp only [List.length_cons, List.length_append] at i1 i3 hl
    simp only [gN, sfE]
    refine ⟨by cases o4 <;> simp [nbor], ?_⟩
    refine sf_b (o4 := some (nI c)) i3 (by intro e; rw [e] at i1; simp at i1) (by omega) (by omega) fun z2 n h hz2 => ?_
    refine hk' _ ⟨z2, _, _, _, rfl, ?_, ?_, hz2⟩
    · rw [List.length_eraseIdx]
      rw [if_pos h]
      omega
    · refine List.Perm.trans ?_ i2
      have e := erase_perm left n h
      have e2 := e.append_right found
      refine List.Perm.trans ?_ e2
      rw [List.append_assoc]
      refine List.Perm.append_left _ ?_
      exact List.perm_append_comm
  · obtain ⟨z', left, found, o4, rfl, i1, i2, i3⟩ := hi
    have e : left = [] := List.length_eq_zero_iff.mp (by simpa using i1)
    subst e
    simp [startD, endP, outs, dRet, dRetV, dsThen, dM1, dThen, daThen, dC, dLc, dItems, dVar, dVarV, still, D.items, D.isTxt, wipeD, SVd_f, SVd_o, SVd_b, SVm_f, SVm_o, SVm_b, SVp_f, SVp_o, SVp_b, dOp, dIn_s, dNotin_s, dEq_s, dEq_i, dEq_b, dNe_s, dNe_i, T_len, T_inj, dTT, lcTurn, gN, nbor, onB_bl, nborL, backD, T_subIn, dCall, daCons, daNil, dTup, dLst, dSeq, dIf, dPass, dSet, dDrop, dAsg, dOr, dAnd, dNot, dIfE, dIxV, dFn, dFnB, gT, gsCons, gsNil]
    exact hp z' found (by simpa using i2) i3
end K01

set_option Elab.async false
set_option linter.all false
set_option maxRecDepth 100000
set_option maxHeartbeats 4000000
namespace K01
open PySem PySem.Spec L2 Ow
set_option autoImplicit false
/-- a text that may be told as a lot or as fields -/
abbrev tx (t : List Nat) : Prop := low t ∧ t.length ≤ 700
abbrev okC (l : Cs) : Prop := l.length ≤ 4 ∧ ∀ x ∈ l, tx x
theorem six_low {t : List Nat} (h : ∀ c ∈ t, c ∈ FL) : low t := fun c hc => by
  have z := h c hc
  simp [FL] at z
  omega
theorem good_tx {f a b : List Nat} (hk : fok f = true) (g : goodC f [a, b] = true) : tx a ∧ tx b := by
  have hf := fok_asc hk
  have h6 := fok_six hk
  obtain ⟨⟨a1, a2⟩, ⟨b1, b2⟩, ab⟩ := (good_iff hf).mp g
  have e : ∀ {x : List Nat}, (∀ c ∈ x, c ∈ f) → asc x → tx x := by
    intro x h1 h2
    refine ⟨six_low fun c hc => h6 c (h1 c hc), ?_⟩
    have : (FL.filter fun c => decide (c ∈ x)) = x := asc_eq (asc_filter asc_FL) h2 fun c => by
      rw [List.mem_filter, decide_eq_true_eq]
      exact ⟨fun w => w.2, fun w => ⟨h6 c (h1 c w), w⟩⟩
    have l := List.length_filter_le (fun c => decide (c ∈ x)) FL
    rw [this] at l
    exact Nat.le_trans l (by decide)
  exact ⟨e a1 a2, e b1 b2⟩
theorem fok_len {f : List Nat} (hk : fok f = true) : f.length ≤ 6 := by
  have hf := fok_asc hk
  have h6 := fok_six hk
  have : (FL.filter fun c => decide (c ∈ f)) = f := asc_eq (asc_filter asc_FL) hf fun c => by
    rw [List.mem_filter, decide_eq_true_eq]
    exact ⟨fun w => w.2, fun w => ⟨h6 c w, w⟩⟩
  have l := List.length_filter_le (fun c => decide (c ∈ f)) FL
  rw [this] at l
  exact l
theorem fok_ne {f : List Nat} (hk : fok f = true) : f ≠ [] := by
  unfold fok at hk
  simp at hk
  exact hk.2
theorem fok_of {f : List Nat} (h1 : f.Sublist FL) (h2 : f ≠ []) : fok f = true := by
  unfold fok
  simp [h2]
  exact (lotOn_iff asc_FL).mpr ⟨fun x hx => h1.subset hx, List.Pairwise.sublist h1 asc_FL⟩
namespace S
def _law_case : DSp := fun cs ds P => ∃ (z : Sto) (k : Nat) (f : List Nat), cs = [z.d] ∧ ds = [tD f] ∧ z.ok (k + 7) ∧ fok f = true ∧ ∀ (z' : Sto) (a b : List Nat), goodC f [a, b] = true → z'.ok k → P (.ok (.frz (cD [a, b]))) [z'.d]
def _law_of_signs : DSp := fun cs ds P => ∃ (f : List Nat) (row : List Nat), cs = [] ∧ ds = [tD f, .lst (row.map nI)] ∧ f.length ≤ 6 ∧ row.length = f.length ∧ ∀ a b : List Nat, (∀ c ∈ a, c ∈ f) → (∀ c ∈ b, c ∈ f) → a.length ≤ 6 → b.length ≤ 6 → P (.ok (.frz (cD [a, b]))) []
def _law_fields : DSp := fun cs ds P => ∃ (z : Sto) (k : Nat), cs = [z.d] ∧ ds = [.int 1, .int 6] ∧ z.ok (k + 9) ∧ ∀ (z' : Sto) (f : List Nat), fok f = true → z'.ok k → P (.ok (.frz (tD f))) [z'.d]
end S
def r__law_case : DS := (dSeq (dSet 2 (dFnB S._law_take 0 (daCons (dC (.int 9)) daNil))) (dSeq (dIf (dOp dLtD (dVar 2) (dC (.int 3))) (dRet (dOp dIx (dTup (daCons (dTup (daCons (dC (.str "")) (daCons (dC (.str "")) daNil))) (daCons (dTup (daCons (dVar 1) (daCons (dC (.str "")) daNil))) (daCons (dTup (daCons (dC (.str "")) (daCons (dVar 1) daNil))) daNil)))) (dVarV 2))) dPass) (dSeq (dIf (dAnd (dOp dLtD (dVar 2) (dC (.int 5))) (dOp dGt (dCall dLen (daCons (dVarV 1) daNil)) (dC (.int 1)))) (dSeq (dSet 3 (dFnB S._law_shuffled 0 (daCons (dVar 1) daNil))) (dRet (dTup (daCons (dIxV 3 dIx (dC (.int 0))) (daCons (dIxV 3 dIx (dC (.int 1))) daNil))))) dPass) (dSeq (dSet 4 (dC (.str ""))) (dSeq (dSet 5 (dC (.str ""))) (dSeq (dFor (dItems (dVar 1)) (gN 6) (dSeq (dSet 7 (dFnB S._law_take 0 (daCons (dC (.int 3)) daNil))) (dSeq (dIf (dOp dEq (dVar 7) (dC (.int 1))) (dSet 4 (dOp dAdd (dVar 4) (dVarV 6))) dPass) (dIf (dOp dEq (dVar 7) (dC (.int 2))) (dSet 5 (dOp dAdd (dVar 5) (dVarV 6))) dPass)))) (dRet (dTup (daCons (dVar 4) (daCons (dVar 5) daNil))))))))))
def N__law_case : List Str := ["store", "fields", "kind", "pair", "ahead", "behind", "field", "sign"]
def r__law_of_signs : DS := (dSeq (dSet 2 (dM1 jJoin (dC (.str "")) (dLc (daMap (daCons (dVar 0) daNil) kEnumA) [3, 4] (gT (gsCons (gN 3) (gsCons (gN 4) gsNil))) (some (dOp dEq (dIxV 1 dIx (dVar 3)) (dC (.int 1)))) (dVar 4)))) (dRet (dTup (daCons (dVar 2) (daCons (dM1 jJoin (dC (.str "")) (dLc (daMap (daCons (dVar 0) daNil) kEnumA) [3, 4] (gT (gsCons (gN 3) (gsCons (gN 4) gsNil))) (some (dOp dEq (dIxV 1 dIx (dVar 3)) (dC (.int 2)))) (dVar 4))) daNil)))))
def N__law_of_signs : List Str := ["fields", "signs", "ahead", "at", "field"]
def r__law_fields : DS := (dSeq (dSet 3 (dFnB S._law_take 0 (daCons (dC (.int 6)) daNil))) (dSeq (dSet 4 (dVar 1)) (dSeq (dIf (dOp dEq (dVar 3) (dC (.int 1))) (dSet 4 (dVar 2)) dPass) (dSeq (dIf (dOp dGt (dVar 3) (dC (.int 1))) (dSet 4 (dOp dAdd (dVar 1) (dFnB S._law_take 0 (daCons (dOp dAdd (dOp dSub (dVar 2) (dVarV 1)) (dC (.int 1))) daNil)))) dPass) (dSeq (dSet 5 (dCall dList (daCons (dC (.str "abcdef")) daNil))) (dSeq (dIf (dOp dEq (dFnB S._law_take 0 (daCons (dC (.int 2)) daNil)) (dC (.int 0))) (dRet (dM1 jJoin (dC (.str "")) (dSl (dVar 5) oNo (dPart (dVar 4))))) dPass) (dSeq (dFor (daMap (daCons (dOp dSub (dC (.int 6)) (dVarV 4)) daNil) kRng1) (gN 6) (dDrop (dMut 5 xPop (daCons (dFnB S._law_take 0 (daCons (dCall dLen (daCons (dVarV 5) daNil)) daNil)) daNil)))) (dRet (dM1 jJoin (dC (.str "")) (dVarV 5))))))))))
def N__law_fields : List Str := ["store", "low", "high", "kind", "many", "letters", "count"]
abbrev csE (z : Sto) (f : List Nat) (d2 : D) (a b : List Nat) (o6 o7 : Option D) : Ow.Env := [some (.bor z.d), some (.frz (tD f)), some (.frz d2), none, some (.frz (tD a)), some (.frz (tD b)), o6.map SV.frz, o7.map SV.frz]
def csB : DS := (dSeq (dSet 7 (dFnB S._law_take 0 (daCons (dC (.int 3)) daNil))) (dSeq (dIf (dOp dEq (dVar 7) (dC (.int 1))) (dSet 4 (dOp dAdd (dVar 4) (dVarV 6))) dPass) (dIf (dOp dEq (dVar 7) (dC (.int 2))) (dSet 5 (dOp dAdd (dVar 5) (dVarV 6))) dPass)))
theorem dAdd_s {a b : List Nat} {P : SV → Prop} (h : a.length + b.length ≤ 100000) (hp : P (.frz (tD (a ++ b)))) : dAdd (tD a) (tD b) P := by
  simp only [dAdd, T_len, T_add]
  exact ⟨by unfold sizeLine; omega, hp⟩
theorem cs_b {z : Sto} {k : Nat} {f : List Nat} {d2 : D} {a b : List Nat} {c : Nat} {o7 : Option D} {K : SO → Ow.Env → Prop} (hz : z.ok (k + 1)) (ha : a.length ≤ 600) (hb : b.length ≤ 600)
    (hk : ∀ (z' : Sto) (a' b' : List Nat) (o7 : Option D), z'.ok k → (a' = a ∧ b' = b) ∨ (a' = a ++ [c] ∧ b' = b) ∨ (a' = a ∧ b' = b ++ [c]) → K .nx (csE z' f d2 a' b' (some (sgn c)) o7)) : csB (csE z f d2 a b (some (sgn c)) o7) K := by
  cases o7 <;> (
    simp [csB, csE, startD, endP, outs, dRet, dRetV, dsThen, dM1, dThen, daThen, dC, dLc, dItems, dVar, dVarV, still, D.items, D.isTxt, wipeD, SVd_f, SVd_o, SVd_b, SVm_f, SVm_o, SVm_b, SVp_f, SVp_o, SVp_b, dOp, dIn_s, dNotin_s, dEq_s, dEq_i, dEq_b, dNe_s, dNe_i, T_len, T_inj, dTT, lcTurn, gN, nbor, onB_bl, nborL, backD, T_subIn, dCall, daCons, daNil, dTup, dLst, dSeq, dIf, dPass, dSet, dDrop, dAsg, dOr, dAnd, dNot, dIfE, dIxV, dFn, dFnB, gT, gsCons, gsNil, SVd_f, SVd_o, SVd_b, dAdd_i, dSub_i, dInt_i, dLt_i, dGt_i, dGe_i, dLe_i, dEq_i, dNe_i]
    refine use_taken (m := 3) hz rfl (by decide) fun z1 r hz1 hr => ?_
    simp [startD, endP, outs, dRet, dRetV, dsThen, dM1, dThen, daThen, dC, dLc, dItems, dVar, dVarV, still, D.items, D.isTxt, wipeD, SVd_f, SVd_o, SVd_b, SVm_f, SVm_o, SVm_b, SVp_f, SVp_o, SVp_b, dOp, dIn_s, dNotin_s, dEq_s, dEq_i, dEq_b, dNe_s, dNe_i, T_len, T_inj, dTT, lcTurn, gN, nbor, onB_bl, nborL, backD, T_subIn, dCall, daCons, daNil, dTup, dLst, dSeq, dIf, dPass, dSet, dDrop, dAsg, dOr, dAnd, dNot, dIfE, dIxV, dFn, dFnB, gT, gsCons, gsNil, SVd_f, SVd_o, SVd_b, dAdd_i, dSub_i, dInt_i, dLt_i, dGt_i, dGe_i, dLe_i, dEq_i, dNe_i]
    refine ifP (fun h => ?_) (fun h => ?_)
    · refine dAdd_s (by simp; omega) ?_
      have h2 : ¬ ((r : Int) = 2) := by omega
      simp [startD, endP, outs, dRet, dRetV, dsThen, dM1, dThen, daThen, dC, dLc, dItems, dVar, dVarV, still, D.items, D.isTxt, wipeD, SVd_f, SVd_o, SVd_b, SVm_f, SVm_o, SVm_b, SVp_f, SVp_o, SVp_b, dOp, dIn_s, dNotin_s, dEq_s, dEq_i, dEq_b, dNe_s, dNe_i, T_len, T_inj, dTT, lcTurn, gN, nbor, onB_bl, nborL, backD, T_subIn, dCall, daCons, daNil, dTup, dLst, dSeq, dIf, dPass, dSet, dDrop, dAsg, dOr, dAnd, dNot, dIfE, dIxV, dFn, dFnB, gT, gsCons, gsNil, SVd_f, SVd_o, SVd_b, dAdd_i, dSub_i, dInt_i, dLt_i, dGt_i, dGe_i, dLe_i, dEq_i, dNe_i, h2]
      exact hk z1 _ _ (some (.int r)) hz1 (.inr (.inl ⟨rfl, rfl⟩))
    · refine ifP (fun h => ?_) (fun h => ?_)
      · refine dAdd_s (by simp; omega) ?_
        exact hk z1 _ _ (some (.int r)) hz1 (.inr (.inr ⟨rfl, rfl⟩))
      · exact hk z1 _ _ (some (.int r)) hz1 (.inl ⟨rfl, rfl⟩))
theorem good_add {f p q a b a' b' : List Nat} {c : Nat} (hf : asc f) (e : f = p ++ c :: q) (ha : a.Sublist p) (hb : b.Sublist p) (hd : disj a b) (h : (a' = a ∧ b' = b) ∨ (a' = a ++ [c] ∧ b' = b) ∨ (a' = a ∧ b' = b ++ [c])) : a'.Sublist (p ++ [c]) ∧ b'.Sublist (p ++ [c]) ∧ disj a' b' := by
  have nd := asc_nodup hf
  rw [e] at nd
  have nc : c ∉ p := fun hc => by
    have := (List.nodup_append.mp nd).2.2 c hc c (by simp)
    exact this rfl
  have na : c ∉ a := fun h => nc (ha.subset h)
  have nb : c ∉ b := fun h => nc (hb.subset h)
  have s1 : ∀ {x : List Nat}, x.Sublist p → x.Sublist (p ++ [c]) := fun h => h.trans (List.sublist_append_left _ _)
  have s2 : ∀ {x : List Nat}, x.Sublist p → (x ++ [c]).Sublist (p ++ [c]) := fun h => h.append (List.Sublist.refl _)
  rcases h with ⟨rfl, rfl⟩ | ⟨rfl, rfl⟩ | ⟨rfl, rfl⟩
  · exact ⟨s1 ha, s1 hb, hd⟩
  · refine ⟨s2 ha, s1 hb, fun x hx hy => ?_⟩
    rcases List.mem_append.mp hx with h | h
    · exact hd x h hy
    · simp at h; subst h; exact nb hy
  · refine ⟨s1 ha, s2 hb, fun x hx hy => ?_⟩
    rcases List.mem_append.mp hy with h | h
    · exact hd x hx h
    · simp at h; subst h; exact na hx
theorem good_sl {f a b : List Nat} (hf : asc f) (ha : a.Sublist f) (hb : b.Sublist f) (hd : disj a b) : goodC f [a, b] = true :=
  (good_iff hf).mpr ⟨⟨fun x hx => ha.subset hx, List.Pairwise.sublist ha hf⟩, ⟨fun x hx => hb.subset hx, List.Pairwise.sublist hb hf⟩, hd⟩
theorem cs_lc {z : Sto} {k : Nat} {f : List Nat} {d2 : D} {Q : SO → Ow.Env → Prop} (hk : fok f = true) (hz : z.ok (k + 6)) (hq : ∀ (z' : Sto) (a b : List Nat) (o6 o7 : Option D), goodC f [a, b] = true → z'.ok k → Q .nx (csE z' f d2 a b o6 o7)) : dForGo (gN 6) csB (signsOf (T f)) (csE z f d2 [] [] none none) Q := by
  have hf := fok_asc hk
  have hl := fok_len hk
  rw [T_signs]
  refine forInv (fun r ρ => ∃ (z' : Sto) (p a b : List Nat) (o6 o7 : Option D), ρ = csE z' f d2 a b o6 o7 ∧ f = p ++ r ∧ a.Sublist p ∧ b.Sublist p ∧ disj a b ∧ z'.ok (k + r.length)) (fun c r ρ hi K hk' hr => ?_) f _ ⟨z, [], [], [], none, none, rfl, rfl, .slnil, .slnil, by intro x hx; simp at hx, hz.le (by omega)⟩ (fun ρ hi => ?_)
  · obtain ⟨z', p, a, b, o6, o7, rfl, e, i1, i2, i3, i4⟩ := hi
    have e2 := congrArg List.length e
    simp only [List.length_append, List.length_cons] at e2 i4
    have l1 := i1.length_le
    have l2 := i2.length_le
    simp only [gN, csE]
    refine ⟨by cases o6 <;> simp [nbor], ?_⟩
    refine cs_b (z := z') (a := a) (b := b) i4 (by omega) (by omega) fun z2 a' b' o7 hz2 hab => ?_
    obtain ⟨j1, j2, j3⟩ := good_add hf e i1 i2 i3 hab
    exact hk' _ ⟨z2, p ++ [c], a', b', _, o7, rfl, by rw [e]; simp, j1, j2, j3, hz2⟩
  · obtain ⟨z', p, a, b, o6, o7, rfl, e, i1, i2, i3, i4⟩ := hi
    simp at e
    subst e
    exact hq z' a b o6 o7 (good_sl hf i1 i2 i3) i4
theorem p__law_case : ∀ cs ds P, S._law_case cs ds P → cs.length = 1 ∧ cs.length + ds.length = 2 ∧ r__law_case (startD N__law_case cs ds) (endP 1 P) := by
  rintro _ _ P ⟨z, k, f, rfl, rfl, hz, hk, hp⟩
  refine ⟨rfl, rfl, ?_⟩
  have hf := fok_asc hk
  have hl := fok_len hk
  have hn := fok_ne hk
  rw [show r__law_case = (dSeq (dSet 2 (dFnB S._law_take 0 (daCons (dC (.int 9)) daNil))) (dSeq (dIf (dOp dLtD (dVar 2) (dC (.int 3))) (dRet (dOp dIx (dTup (daCons (dTup (daCons (dC (.str "")) (daCons (dC (.str "")) daNil))) (daCons (dTup (daCons (dVar 1) (daCons (dC (.str "")) daNil))) (daCons (dTup (daCons (dC (.str "")) (daCons (dVar 1) daNil))) daNil)))) (dVarV 2))) dPass) (dSeq (dIf (dAnd (dOp dLtD (dVar 2) (dC (.int 5))) (dOp dGt (dCall dLen (daCons (dVarV 1) daNil)) (dC (.int 1)))) (dSeq (dSet 3 (dFnB S._law_shuffled 0 (daCons (dVar 1) daNil))) (dRet (dTup (daCons (dIxV 3 dIx (dC (.int 0))) (daCons (dIxV 3 dIx (dC (.int 1))) daNil))))) dPass) (dSeq (dSet 4 (dC (.str ""))) (dSeq (dSet 5 (dC (.str ""))) (dSeq (dFor (dItems (dVar 1)) (gN 6) csB) (dRet (dTup (daCons (dVar 4) (daCons (dVar 5) daNil)))))))))) from rfl]
  simp [N__law_case, startD, endP, outs, dRet, dRetV, dsThen, dM1, dThen, daThen, dC, dLc, dItems, dVar, dVarV, still, D.items, D.isTxt, wipeD, SVd_f, SVd_o, SVd_b, SVm_f, SVm_o, SVm_b, SVp_f, SVp_o, SVp_b, dOp, dIn_s, dNotin_s, dEq_s, dEq_i, dEq_b, dNe_s, dNe_i, T_len, T_inj, dTT, lcTurn, gN, nbor, onB_bl, nborL, backD, T_subIn, dCall, daCons, daNil, dTup, dLst, dSeq, dIf, dPass, dSet, dDrop, dAsg, dOr, dAnd, dNot, dIfE, dIxV, dFn, dFnB, gT, gsCons, gsNil, SVd_f, SVd_o, SVd_b, dAdd_i, dSub_i, dInt_i, dLt_i, dGt_i, dGe_i, dLe_i, dEq_i, dNe_i]
  refine use_taken (m := 9) (k := k + 6) hz rfl (by decide) fun z1 r hz1 hr => ?_
  have hz0 := hz1.le (show k ≤ k + 6 by omega)
  have go : ∀ Q : SO → Ow.Env → Prop, (∀ (z' : Sto) (a b : List Nat) (o6 o7 : Option D), goodC f [a, b] = true → z'.ok k → Q .nx (csE z' f (.int r) a b o6 o7)) → dForGo (gN 6) csB (signsOf (T f)) (csE z1 f (.int r) [] [] none none) Q := fun Q hq => cs_lc hk hz1 hq
  simp [startD, endP, outs, dRet, dRetV, dsThen, dM1, dThen, daThen, dC, dLc, dItems, dVar, dVarV, still, D.items, D.isTxt, wipeD, SVd_f, SVd_o, SVd_b, SVm_f, SVm_o, SVm_b, SVp_f, SVp_o, SVp_b, dOp, dIn_s, dNotin_s, dEq_s, dEq_i, dEq_b, dNe_s, dNe_i, T_len, T_inj, dTT, lcTurn, gN, nbor, onB_bl, nborL, backD, T_subIn, dCall, daCons, daNil, dTup, dLst, dSeq, dIf, dPass, dSet, dDrop, dAsg, dOr, dAnd, dNot, dIfE, dIxV, dFn, dFnB, gT, gsCons, gsNil, SVd_f, SVd_o, SVd_b, dAdd_i, dSub_i, dInt_i, dLt_i, dGt_i, dGe_i, dLe_i, dEq_i, dNe_i, dLen]
  refine ifP (fun h => ?_) (fun h => ?_)
  · have e : r = 0 ∨ r = 1 ∨ r = 2 := by omega
    have s2 : 2 ≤ sizeLine := by decide
    have s3 : 3 ≤ sizeLine := by decide
    rcases e with rfl | rfl | rfl
    · simp [dIx, atI, ixN]
      exact ⟨s2, s3, hp z1 [] [] (good_sl hf (List.nil_sublist _) (List.nil_sublist _) (by intro x hx; simp at hx)) hz0⟩
    · simp [dIx, atI, ixN]
      exact ⟨s2, s3, hp z1 f [] (good_sl hf (List.Sublist.refl _) (List.nil_sublist _) (by intro x hx hy; simp at hy)) hz0⟩
    · simp [dIx, atI, ixN]
      exact ⟨s2, s3, hp z1 [] f (good_sl hf (List.nil_sublist _) (List.Sublist.refl _) (by intro x hx; simp at hx)) hz0⟩
  · have s2 : 2 ≤ sizeLine := by decide
    refine ifP (fun h5 => ⟨by unfold sizeLine; omega, ifP (fun h1 => ?_) (fun h1 => ?_)⟩) (fun h5 => ?_)
    · refine ⟨z1, k, f, rfl, rfl, hz1, hl, fun z2 l pl hz2 => ?_⟩
      have nd := (pl.nodup_iff).mpr (asc_nodup hf)
      have le := pl.length_eq
      match l, nd, le, pl with
      | [], _, le, _ => simp at le; omega
      | [_], _, le, _ => simp at le; omega
      | x :: y :: l, nd, _, pl =>
        simp [dIx, atI, ixN, SVd_f, SVd_o]
        have hx : x ∈ f := pl.mem_iff.mp (by simp)
        have hy : y ∈ f := pl.mem_iff.mp (by simp)
        refine ⟨_, by rw [if_pos (by omega)]; rfl, _, by rw [if_pos (by omega)]; rfl, s2, hp z2 [x] [y] (good_sl hf (by simpa using hx) (by simpa using hy) ?_) hz2⟩
        intro c h1 h2
        simp at h1 h2
        subst h1
        subst h2
        simp at nd
    · simp [startD, endP, outs, dRet, dRetV, dsThen, dM1, dThen, daThen, dC, dLc, dItems, dVar, dVarV, still, D.items, D.isTxt, wipeD, SVd_f, SVd_o, SVd_b, SVm_f, SVm_o, SVm_b, SVp_f, SVp_o, SVp_b, dOp, dIn_s, dNotin_s, dEq_s, dEq_i, dEq_b, dNe_s, dNe_i, T_len, T_inj, dTT, lcTurn, gN, nbor, onB_bl, nborL, backD, T_subIn, dCall, daCons, daNil, dTup, dLst, dSeq, dIf, dPass, dSet, dDrop, dAsg, dOr, dAnd, dNot, dIfE, dIxV, dFn, dFnB, gT, gsCons, gsNil, dFor]
      refine go _ fun z' a b o6 o7 g hz => ?_
      simp [startD, endP, outs, dRet, dRetV, dsThen, dM1, dThen, daThen, dC, dLc, dItems, dVar, dVarV, still, D.items, D.isTxt, wipeD, SVd_f, SVd_o, SVd_b, SVm_f, SVm_o, SVm_b, SVp_f, SVp_o, SVp_b, dOp, dIn_s, dNotin_s, dEq_s, dEq_i, dEq_b, dNe_s, dNe_i, T_len, T_inj, dTT, lcTurn, gN, nbor, onB_bl, nborL, backD, T_subIn, dCall, daCons, daNil, dTup, dLst, dSeq, dIf, dPass, dSet, dDrop, dAsg, dOr, dAnd, dNot, dIfE, dIxV, dFn, dFnB, gT, gsCons, gsNil, csE]
      exact ⟨s2, hp z' a b g hz⟩
    · simp [startD, endP, outs, dRet, dRetV, dsThen, dM1, dThen, daThen, dC, dLc, dItems, dVar, dVarV, still, D.items, D.isTxt, wipeD, SVd_f, SVd_o, SVd_b, SVm_f, SVm_o, SVm_b, SVp_f, SVp_o, SVp_b, dOp, dIn_s, dNotin_s, dEq_s, dEq_i, dEq_b, dNe_s, dNe_i, T_len, T_inj, dTT, lcTurn, gN, nbor, onB_bl, nborL, backD, T_subIn, dCall, daCons, daNil, dTup, dLst, dSeq, dIf, dPass, dSet, dDrop, dAsg, dOr, dAnd, dNot, dIfE, dIxV, dFn, dFnB, gT, gsCons, gsNil, dFor]
      refine go _ fun z' a b o6 o7 g hz => ?_
      simp [startD, endP, outs, dRet, dRetV, dsThen, dM1, dThen, daThen, dC, dLc, dItems, dVar, dVarV, still, D.items, D.isTxt, wipeD, SVd_f, SVd_o, SVd_b, SVm_f, SVm_o, SVm_b, SVp_f, SVp_o, SVp_b, dOp, dIn_s, dNotin_s, dEq_s, dEq_i, dEq_b, dNe_s, dNe_i, T_len, T_inj, dTT, lcTurn, gN, nbor, onB_bl, nborL, backD, T_subIn, dCall, daCons, daNil, dTup, dLst, dSeq, dIf, dPass, dSet, dDrop, dAsg, dOr, dAnd, dNot, dIfE, dIxV, dFn, dFnB, gT, gsCons, gsNil, csE]
      exact ⟨s2, hp z' a b g hz⟩
theorem enum_T {f : List Nat} : enumD (signsOf (T f)) = (f.zipIdx).map fun p => D.tup [.int (p.2 : Nat), sgn p.1] := by
  rw [T_signs]
  unfold enumD
  apply List.ext_getElem
  · simp
  · intro i h1 h2
    simp
theorem os_lc {f row : List Nat} {o2 : Option SV} {n : Int} {Q : O → Ow.Env → Prop} (hf : f.length ≤ 6) (hr : row.length = f.length) (hq : ∀ a : List Nat, (∀ c ∈ a, c ∈ f) → a.length ≤ 6 → Q (.ok (.own (.lst (a.map sgn)))) [some (.frz (tD f)), some (.frz (.lst (row.map nI))), o2, none, none]) :
    dLcGo [3, 4] (gT (gsCons (gN 3) (gsCons (gN 4) gsNil))) (some (dOp dEq (dIxV 1 dIx (dVar 3)) (dC (.int n)))) (dVar 4) (enumD (signsOf (T f))) [] [some (.frz (tD f)), some (.frz (.lst (row.map nI))), o2, none, none] Q := by
  rw [enum_T]
  refine lcInv (fun r acc ρ => ∃ a : List Nat, acc = a.map sgn ∧ ρ = [some (.frz (tD f)), some (.frz (.lst (row.map nI))), o2, none, none] ∧ (∀ c ∈ a, c ∈ f) ∧ (∀ p ∈ r, p.1 ∈ f ∧ p.2 < row.length) ∧ a.length + r.length ≤ 6)
    (fun p r acc ρ hi K k1 k2 => ?_) f.zipIdx [] _ ⟨[], rfl, rfl, by simp, ?_, by simpa using hf⟩ (by unfold sizeLine; simp; omega) (fun acc ρ hi => ?_)
  · obtain ⟨a, rfl, rfl, i1, i2, i3⟩ := hi
    obtain ⟨h1, h2⟩ := i2 p (by simp)
    simp only [List.length_cons] at i3
    have e : atI (row.map nI) (p.2 : Int) = some (nI row[p.2]) := by
      rw [atI_nat (by simpa using h2)]
      simp
    simp [startD, endP, outs, dRet, dRetV, dsThen, dM1, dThen, daThen, dC, dLc, dItems, dVar, dVarV, still, D.items, D.isTxt, wipeD, SVd_f, SVd_o, SVd_b, SVm_f, SVm_o, SVm_b, SVp_f, SVp_o, SVp_b, dOp, dIn_s, dNotin_s, dEq_s, dEq_i, dEq_b, dNe_s, dNe_i, T_len, T_inj, dTT, lcTurn, gN, nbor, onB_bl, nborL, backD, T_subIn, dCall, daCons, daNil, dTup, dLst, dSeq, dIf, dPass, dSet, dDrop, dAsg, dOr, dAnd, dNot, dIfE, dIxV, dFn, dFnB, gT, gsCons, gsNil, SVd_f, SVd_o, SVd_b, dAdd_i, dSub_i, dInt_i, dLt_i, dGt_i, dGe_i, dLe_i, dEq_i, dNe_i, dIx, e]
    refine ifP (fun h => ?_) (fun h => ?_)
    · exact k1 _ _ ⟨a ++ [p.1], by simp, rfl, by
        intro x hx
        rcases List.mem_append.mp hx with h | h
        · exact i1 x h
        · simp at h; subst h; exact h1, fun x hx => i2 x (by simp [hx]), by simp; omega⟩
    · exact k2 _ ⟨a, rfl, rfl, i1, fun x hx => i2 x (by simp [hx]), by omega⟩
  · rintro ⟨c, i⟩ hp
    have := List.mem_zipIdx hp
    simp at this
    refine ⟨?_, by omega⟩
    rw [this.2]
    exact List.getElem_mem _
  · obtain ⟨a, rfl, rfl, i1, i2, i3⟩ := hi
    exact hq a i1 (by simpa using i3)
theorem p__law_of_signs : ∀ cs ds P, S._law_of_signs cs ds P → cs.length = 0 ∧ cs.length + ds.length = 2 ∧ r__law_of_signs (startD N__law_of_signs cs ds) (endP 0 P) := by
  rintro _ _ P ⟨f, row, rfl, rfl, hf, hr, hp⟩
  refine ⟨rfl, rfl, ?_⟩
  simp [r__law_of_signs, N__law_of_signs, startD, endP, outs, dRet, dRetV, dsThen, dM1, dThen, daThen, dC, dLc, dItems, dVar, dVarV, still, D.items, D.isTxt, wipeD, SVd_f, SVd_o, SVd_b, SVm_f, SVm_o, SVm_b, SVp_f, SVp_o, SVp_b, dOp, dIn_s, dNotin_s, dEq_s, dEq_i, dEq_b, dNe_s, dNe_i, T_len, T_inj, dTT, lcTurn, gN, nbor, onB_bl, nborL, backD, T_subIn, dCall, daCons, daNil, dTup, dLst, dSeq, dIf, dPass, dSet, dDrop, dAsg, dOr, dAnd, dNot, dIfE, dIxV, dFn, dFnB, gT, gsCons, gsNil, SVd_f, SVd_o, SVd_b, dAdd_i, dSub_i, dInt_i, dLt_i, dGt_i, dGe_i, dLe_i, dEq_i, dNe_i, daMap, kEnumA]
  refine os_lc hf hr fun a ha la => ?_
  simp [startD, endP, outs, dRet, dRetV, dsThen, dM1, dThen, daThen, dC, dLc, dItems, dVar, dVarV, still, D.items, D.isTxt, wipeD, SVd_f, SVd_o, SVd_b, SVm_f, SVm_o, SVm_b, SVp_f, SVp_o, SVp_b, dOp, dIn_s, dNotin_s, dEq_s, dEq_i, dEq_b, dNe_s, dNe_i, T_len, T_inj, dTT, lcTurn, gN, nbor, onB_bl, nborL, backD, T_subIn, dCall, daCons, daNil, dTup, dLst, dSeq, dIf, dPass, dSet, dDrop, dAsg, dOr, dAnd, dNot, dIfE, dIxV, dFn, dFnB, gT, gsCons, gsNil]
  rw [empty_T]
  refine jJoin_signs (by omega) ?_
  simp [startD, endP, outs, dRet, dRetV, dsThen, dM1, dThen, daThen, dC, dLc, dItems, dVar, dVarV, still, D.items, D.isTxt, wipeD, SVd_f, SVd_o, SVd_b, SVm_f, SVm_o, SVm_b, SVp_f, SVp_o, SVp_b, dOp, dIn_s, dNotin_s, dEq_s, dEq_i, dEq_b, dNe_s, dNe_i, T_len, T_inj, dTT, lcTurn, gN, nbor, onB_bl, nborL, backD, T_subIn, dCall, daCons, daNil, dTup, dLst, dSeq, dIf, dPass, dSet, dDrop, dAsg, dOr, dAnd, dNot, dIfE, dIxV, dFn, dFnB, gT, gsCons, gsNil, daMap, kEnumA]
  refine os_lc hf hr fun b hb lb => ?_
  simp [startD, endP, outs, dRet, dRetV, dsThen, dM1, dThen, daThen, dC, dLc, dItems, dVar, dVarV, still, D.items, D.isTxt, wipeD, SVd_f, SVd_o, SVd_b, SVm_f, SVm_o, SVm_b, SVp_f, SVp_o, SVp_b, dOp, dIn_s, dNotin_s, dEq_s, dEq_i, dEq_b, dNe_s, dNe_i, T_len, T_inj, dTT, lcTurn, gN, nbor, onB_bl, nborL, backD, T_subIn, dCall, daCons, daNil, dTup, dLst, dSeq, dIf, dPass, dSet, dDrop, dAsg, dOr, dAnd, dNot, dIfE, dIxV, dFn, dFnB, gT, gsCons, gsNil]
  refine jJoin_signs (by omega) ?_
  exact ⟨by decide, hp a b ha hb la lb⟩
end K01

set_option Elab.async false
set_option linter.all false
set_option maxRecDepth 100000
set_option maxHeartbeats 4000000
namespace K01
open PySem PySem.Spec L2 Ow
set_option autoImplicit false
def flB : DS := (dDrop (dMut 5 xPop (daCons (dFnB S._law_take 0 (daCons (dCall dLen (daCons (dVarV 5) daNil)) daNil)) daNil)))
def flEnd : DS := (dSeq (dSet 5 (dCall dList (daCons (dC (.str "abcdef")) daNil))) (dSeq (dIf (dOp dEq (dFnB S._law_take 0 (daCons (dC (.int 2)) daNil)) (dC (.int 0))) (dRet (dM1 jJoin (dC (.str "")) (dSl (dVar 5) oNo (dPart (dVar 4))))) dPass) (dSeq (dFor (daMap (daCons (dOp dSub (dC (.int 6)) (dVarV 4)) daNil) kRng1) (gN 6) flB) (dRet (dM1 jJoin (dC (.str "")) (dVarV 5))))))
abbrev flE (z : Sto) (d3 : D) (m : Int) (l : List Nat) (o6 : Option D) : Ow.Env := [some (.bor z.d), some (.frz (.int 1)), some (.frz (.int 6)), some (.frz d3), some (.frz (.int m)), some (.own (.lst (l.map sgn))), o6.map SV.frz]
theorem fl_b {z : Sto} {k : Nat} {d3 : D} {m : Int} {l : List Nat} {o6 : Option D} {K : SO → Ow.Env → Prop} (hz : z.ok (k + 1)) (h1 : l ≠ []) (h2 : l.length ≤ 6) (hk : ∀ (z' : Sto) (n : Nat) (h : n < l.length), z'.ok k → K .nx (flE z' d3 m (l.eraseIdx n) o6)) : flB (flE z d3 m l o6) K := by
  have h4 : 0 < l.length := List.length_pos_iff.mpr h1
  simp [flB, flE, startD, endP, outs, dRet, dRetV, dsThen, dM1, dThen, daThen, dC, dLc, dItems, dVar, dVarV, still, D.items, D.isTxt, wipeD, SVd_f, SVd_o, SVd_b, SVm_f, SVm_o, SVm_b, SVp_f, SVp_o, SVp_b, dOp, dIn_s, dNotin_s, dEq_s, dEq_i, dEq_b, dNe_s, dNe_i, T_len, T_inj, dTT, lcTurn, gN, nbor, onB_bl, nborL, backD, T_subIn, dCall, daCons, daNil, dTup, dLst, dSeq, dIf, dPass, dSet, dDrop, dAsg, dOr, dAnd, dNot, dIfE, dIxV, dFn, dFnB, gT, gsCons, gsNil, SVd_f, SVd_o, SVd_b, dAdd_i, dSub_i, dInt_i, dLt_i, dGt_i, dGe_i, dLe_i, dEq_i, dNe_i, dMut, dLen]
  refine use_take (m := l.length) hz (by omega) fun z' r hz' hr => ?_
  have hr : r < l.length := by omega
  have z := hk z' r hr hz'
  simp [startD, endP, outs, dRet, dRetV, dsThen, dM1, dThen, daThen, dC, dLc, dItems, dVar, dVarV, still, D.items, D.isTxt, wipeD, SVd_f, SVd_o, SVd_b, SVm_f, SVm_o, SVm_b, SVp_f, SVp_o, SVp_b, dOp, dIn_s, dNotin_s, dEq_s, dEq_i, dEq_b, dNe_s, dNe_i, T_len, T_inj, dTT, lcTurn, gN, nbor, onB_bl, nborL, backD, T_subIn, dCall, daCons, daNil, dTup, dLst, dSeq, dIf, dPass, dSet, dDrop, dAsg, dOr, dAnd, dNot, dIfE, dIxV, dFn, dFnB, gT, gsCons, gsNil, SVd_f, SVd_o, SVd_b, dAdd_i, dSub_i, dInt_i, dLt_i, dGt_i, dGe_i, dLe_i, dEq_i, dNe_i, xPop, seq_nat hr, hr]
  refine ⟨by omega, ?_⟩
  rw [eraseIdx_map]
  simpa [flE] using z
theorem cut_FL {m : Nat} (h : m ≤ 6) : cutD (FL.map sgn) none (some (m : Int)) = (FL.take m).map sgn := by
  have e : m = 0 ∨ m = 1 ∨ m = 2 ∨ m = 3 ∨ m = 4 ∨ m = 5 ∨ m = 6 := by omega
  rcases e with rfl | rfl | rfl | rfl | rfl | rfl | rfl <;> rfl
theorem fl_end {z : Sto} {k m : Nat} {d3 : D} {P : O → List D → Prop} (hz : z.ok (k + 7)) (h1 : 1 ≤ m) (h2 : m ≤ 6) (hp : ∀ (z' : Sto) (f : List Nat), fok f = true → z'.ok k → P (.ok (.frz (tD f))) [z'.d]) : flEnd [some (.bor z.d), some (.frz (.int 1)), some (.frz (.int 6)), some (.frz d3), some (.frz (.int m)), none, none] (endP 1 P) := by
  simp [flEnd, startD, endP, outs, dRet, dRetV, dsThen, dM1, dThen, daThen, dC, dLc, dItems, dVar, dVarV, still, D.items, D.isTxt, wipeD, SVd_f, SVd_o, SVd_b, SVm_f, SVm_o, SVm_b, SVp_f, SVp_o, SVp_b, dOp, dIn_s, dNotin_s, dEq_s, dEq_i, dEq_b, dNe_s, dNe_i, T_len, T_inj, dTT, lcTurn, gN, nbor, onB_bl, nborL, backD, T_subIn, dCall, daCons, daNil, dTup, dLst, dSeq, dIf, dPass, dSet, dDrop, dAsg, dOr, dAnd, dNot, dIfE, dIxV, dFn, dFnB, gT, gsCons, gsNil, SVd_f, SVd_o, SVd_b, dAdd_i, dSub_i, dInt_i, dLt_i, dGt_i, dGe_i, dLe_i, dEq_i, dNe_i, dList]
  refine ⟨by decide, ?_⟩
  rw [FL_T, T_signs]
  refine use_taken (m := 2) (k := k + 6) hz rfl (by decide) fun z1 r hz1 hr => ?_
  simp [startD, endP, outs, dRet, dRetV, dsThen, dM1, dThen, daThen, dC, dLc, dItems, dVar, dVarV, still, D.items, D.isTxt, wipeD, SVd_f, SVd_o, SVd_b, SVm_f, SVm_o, SVm_b, SVp_f, SVp_o, SVp_b, dOp, dIn_s, dNotin_s, dEq_s, dEq_i, dEq_b, dNe_s, dNe_i, T_len, T_inj, dTT, lcTurn, gN, nbor, onB_bl, nborL, backD, T_subIn, dCall, daCons, daNil, dTup, dLst, dSeq, dIf, dPass, dSet, dDrop, dAsg, dOr, dAnd, dNot, dIfE, dIxV, dFn, dFnB, gT, gsCons, gsNil, SVd_f, SVd_o, SVd_b, dAdd_i, dSub_i, dInt_i, dLt_i, dGt_i, dGe_i, dLe_i, dEq_i, dNe_i]
  refine ifP (fun h => ?_) (fun h => ?_)
  · simp [startD, endP, outs, dRet, dRetV, dsThen, dM1, dThen, daThen, dC, dLc, dItems, dVar, dVarV, still, D.items, D.isTxt, wipeD, SVd_f, SVd_o, SVd_b, SVm_f, SVm_o, SVm_b, SVp_f, SVp_o, SVp_b, dOp, dIn_s, dNotin_s, dEq_s, dEq_i, dEq_b, dNe_s, dNe_i, T_len, T_inj, dTT, lcTurn, gN, nbor, onB_bl, nborL, backD, T_subIn, dCall, daCons, daNil, dTup, dLst, dSeq, dIf, dPass, dSet, dDrop, dAsg, dOr, dAnd, dNot, dIfE, dIxV, dFn, dFnB, gT, gsCons, gsNil, SVd_f, SVd_o, SVd_b, dAdd_i, dSub_i, dInt_i, dLt_i, dGt_i, dGe_i, dLe_i, dEq_i, dNe_i, dSl, oNo, dPart, D.part, dCut]
    rw [show cutD [D.str (T [97]), D.str (T [98]), D.str (T [99]), D.str (T [100]), D.str (T [101]), D.str (T [102])] none (some (m : Int)) = (FL.take m).map sgn from cut_FL h2, empty_T]
    have l := List.length_take_le m FL
    refine jJoin_signs (by omega) ?_
    exact hp z1 _ (fok_of (List.take_sublist _ _) (by intro e; have := congrArg List.length e; simp [FL] at this; omega)) (hz1.le (by omega))
  · simp [startD, endP, outs, dRet, dRetV, dsThen, dM1, dThen, daThen, dC, dLc, dItems, dVar, dVarV, still, D.items, D.isTxt, wipeD, SVd_f, SVd_o, SVd_b, SVm_f, SVm_o, SVm_b, SVp_f, SVp_o, SVp_b, dOp, dIn_s, dNotin_s, dEq_s, dEq_i, dEq_b, dNe_s, dNe_i, T_len, T_inj, dTT, lcTurn, gN, nbor, onB_bl, nborL, backD, T_subIn, dCall, daCons, daNil, dTup, dLst, dSeq, dIf, dPass, dSet, dDrop, dAsg, dOr, dAnd, dNot, dIfE, dIxV, dFn, dFnB, gT, gsCons, gsNil, SVd_f, SVd_o, SVd_b, dAdd_i, dSub_i, dInt_i, dLt_i, dGt_i, dGe_i, dLe_i, dEq_i, dNe_i, dFor, daMap, kRng1, range_n]
    refine ⟨by omega, ?_⟩
    refine forInv (fun r ρ => ∃ (z' : Sto) (l : List Nat) (o6 : Option D), ρ = flE z' d3 m l o6 ∧ l.Sublist FL ∧ l.length = m + r.length ∧ z'.ok (k + r.length)) (fun c r ρ hi K hk' hr => ?_) (List.range _) _ ⟨z1, FL, none, rfl, List.Sublist.refl _, by simp [FL] <;> omega, hz1.le (by simp <;> omega)⟩ (fun ρ hi => ?_)
    · obtain ⟨z', l, o6, rfl, i1, i2, i3⟩ := hi
      have hl := i1.length_le
      have : FL.length = 6 := rfl
      simp only [List.length_cons] at i2 i3
      simp only [gN, flE]
      refine ⟨by cases o6 <;> simp [nbor], ?_⟩
      refine fl_b (o6 := some (nI c)) i3 (by intro e; rw [e] at i2; simp at i2) (by omega) fun z2 n h hz2 => ?_
      refine hk' _ ⟨z2, _, _, rfl, (List.eraseIdx_sublist _ _).trans i1, ?_, hz2⟩
      rw [List.length_eraseIdx, if_pos h]
      omega
    · obtain ⟨z', l, o6, rfl, i1, i2, i3⟩ := hi
      have hl := i1.length_le
      have : FL.length = 6 := rfl
      simp [startD, endP, outs, dRet, dRetV, dsThen, dM1, dThen, daThen, dC, dLc, dItems, dVar, dVarV, still, D.items, D.isTxt, wipeD, SVd_f, SVd_o, SVd_b, SVm_f, SVm_o, SVm_b, SVp_f, SVp_o, SVp_b, dOp, dIn_s, dNotin_s, dEq_s, dEq_i, dEq_b, dNe_s, dNe_i, T_len, T_inj, dTT, lcTurn, gN, nbor, onB_bl, nborL, backD, T_subIn, dCall, daCons, daNil, dTup, dLst, dSeq, dIf, dPass, dSet, dDrop, dAsg, dOr, dAnd, dNot, dIfE, dIxV, dFn, dFnB, gT, gsCons, gsNil]
      rw [empty_T]
      refine jJoin_signs (by omega) ?_
      exact hp z' l (fok_of i1 (by intro e; rw [e] at i2; simp at i2; omega)) i3
theorem p__law_fields : ∀ cs ds P, S._law_fields cs ds P → cs.length = 1 ∧ cs.length + ds.length = 3 ∧ r__law_fields (startD N__law_fields cs ds) (endP 1 P) := by
  rintro _ _ P ⟨z, k, rfl, rfl, hz, hp⟩
  refine ⟨rfl, rfl, ?_⟩
  rw [show r__law_fields = (dSeq (dSet 3 (dFnB S._law_take 0 (daCons (dC (.int 6)) daNil))) (dSeq (dSet 4 (dVar 1)) (dSeq (dIf (dOp dEq (dVar 3) (dC (.int 1))) (dSet 4 (dVar 2)) dPass) (dSeq (dIf (dOp dGt (dVar 3) (dC (.int 1))) (dSet 4 (dOp dAdd (dVar 1) (dFnB S._law_take 0 (daCons (dOp dAdd (dOp dSub (dVar 2) (dVarV 1)) (dC (.int 1))) daNil)))) dPass) flEnd)))) from rfl]
  simp [N__law_fields, startD, endP, outs, dRet, dRetV, dsThen, dM1, dThen, daThen, dC, dLc, dItems, dVar, dVarV, still, D.items, D.isTxt, wipeD, SVd_f, SVd_o, SVd_b, SVm_f, SVm_o, SVm_b, SVp_f, SVp_o, SVp_b, dOp, dIn_s, dNotin_s, dEq_s, dEq_i, dEq_b, dNe_s, dNe_i, T_len, T_inj, dTT, lcTurn, gN, nbor, onB_bl, nborL, backD, T_subIn, dCall, daCons, daNil, dTup, dLst, dSeq, dIf, dPass, dSet, dDrop, dAsg, dOr, dAnd, dNot, dIfE, dIxV, dFn, dFnB, gT, gsCons, gsNil, SVd_f, SVd_o, SVd_b, dAdd_i, dSub_i, dInt_i, dLt_i, dGt_i, dGe_i, dLe_i, dEq_i, dNe_i]
  refine use_taken (m := 6) (k := k + 8) hz rfl (by decide) fun z1 r hz1 hr => ?_
  simp [startD, endP, outs, dRet, dRetV, dsThen, dM1, dThen, daThen, dC, dLc, dItems, dVar, dVarV, still, D.items, D.isTxt, wipeD, SVd_f, SVd_o, SVd_b, SVm_f, SVm_o, SVm_b, SVp_f, SVp_o, SVp_b, dOp, dIn_s, dNotin_s, dEq_s, dEq_i, dEq_b, dNe_s, dNe_i, T_len, T_inj, dTT, lcTurn, gN, nbor, onB_bl, nborL, backD, T_subIn, dCall, daCons, daNil, dTup, dLst, dSeq, dIf, dPass, dSet, dDrop, dAsg, dOr, dAnd, dNot, dIfE, dIxV, dFn, dFnB, gT, gsCons, gsNil, SVd_f, SVd_o, SVd_b, dAdd_i, dSub_i, dInt_i, dLt_i, dGt_i, dGe_i, dLe_i, dEq_i, dNe_i]
  refine ifP (fun h => ?_) (fun h => ?_)
  · have h2 : ¬ (1 < (r : Int)) := by omega
    simp [startD, endP, outs, dRet, dRetV, dsThen, dM1, dThen, daThen, dC, dLc, dItems, dVar, dVarV, still, D.items, D.isTxt, wipeD, SVd_f, SVd_o, SVd_b, SVm_f, SVm_o, SVm_b, SVp_f, SVp_o, SVp_b, dOp, dIn_s, dNotin_s, dEq_s, dEq_i, dEq_b, dNe_s, dNe_i, T_len, T_inj, dTT, lcTurn, gN, nbor, onB_bl, nborL, backD, T_subIn, dCall, daCons, daNil, dTup, dLst, dSeq, dIf, dPass, dSet, dDrop, dAsg, dOr, dAnd, dNot, dIfE, dIxV, dFn, dFnB, gT, gsCons, gsNil, SVd_f, SVd_o, SVd_b, dAdd_i, dSub_i, dInt_i, dLt_i, dGt_i, dGe_i, dLe_i, dEq_i, dNe_i, h2]
    exact fl_end (m := 6) (hz1.le (by omega)) (by omega) (by omega) hp
  · refine ifP (fun h2 => ?_) (fun h2 => ?_)
    · refine use_taken (m := 6) (k := k + 7) hz1 rfl (by decide) fun z2 q hz2 hq => ?_
      simp [startD, endP, outs, dRet, dRetV, dsThen, dM1, dThen, daThen, dC, dLc, dItems, dVar, dVarV, still, D.items, D.isTxt, wipeD, SVd_f, SVd_o, SVd_b, SVm_f, SVm_o, SVm_b, SVp_f, SVp_o, SVp_b, dOp, dIn_s, dNotin_s, dEq_s, dEq_i, dEq_b, dNe_s, dNe_i, T_len, T_inj, dTT, lcTurn, gN, nbor, onB_bl, nborL, backD, T_subIn, dCall, daCons, daNil, dTup, dLst, dSeq, dIf, dPass, dSet, dDrop, dAsg, dOr, dAnd, dNot, dIfE, dIxV, dFn, dFnB, gT, gsCons, gsNil, SVd_f, SVd_o, SVd_b, dAdd_i, dSub_i, dInt_i, dLt_i, dGt_i, dGe_i, dLe_i, dEq_i, dNe_i]
      have e : (1 : Int) + q = ((1 + q : Nat) : Int) := by omega
      rw [e]
      exact fl_end hz2 (by omega) (by omega) hp
    · exact fl_end (m := 1) (hz1.le (by omega)) (by omega) (by omega) hp
end K01

set_option Elab.async false
set_option linter.all false
set_option maxRecDepth 100000
set_option maxHeartbeats 4000000
namespace K01
open PySem PySem.Spec L2 Ow
set_option autoImplicit false
theorem cutS_T {l : List Nat} {lo hi : Option Int} : cutS (T l) lo hi = T ((l.drop (HT.sIx l.length 0 lo)).take (HT.sIx l.length l.length hi - HT.sIx l.length 0 lo)) := by
  unfold cutS
  rw [T_len]
theorem cut_sub {l : List Nat} {lo hi : Option Int} {P : SV → Prop} (hl : l.length ≤ 1000) (h : ∀ l' : List Nat, (∀ c ∈ l', c ∈ l) → l'.length ≤ l.length → P (.frz (tD l'))) : dCut (tD l) lo hi P := by
  unfold dCut
  simp only [T_len]
  refine ⟨by unfold sizeLine; omega, ?_⟩
  rw [cutS_T]
  refine h _ (fun c hc => List.mem_of_mem_drop (List.mem_of_mem_take hc)) ?_
  rw [List.length_take, List.length_drop]
  omega
theorem mul_T {c n : Nat} (h : 1 ≤ n) : Txt.mul (T [c]) (n : Int) = T (List.replicate n c) := by
  have fold : ∀ (n : Nat) (acc : Array Nat), List.foldl (fun x y : Array Nat => x ++ y) acc (List.replicate n #[c]) = acc ++ (List.replicate n c).toArray := by
    intro n
    induction n with
    | zero => intro acc; simp
    | succ n ih =>
      intro acc
      rw [List.replicate_succ, List.foldl_cons, ih, List.replicate_succ]
      apply Array.ext'
      simp
  unfold Txt.mul
  rw [if_neg (by omega)]
  by_cases h1 : n = 1
  · subst h1
    rfl
  · rw [if_neg (by simp [T_len]; omega)]
    have z := fold n #[]
    simp only [Array.empty_append] at z
    simp only [Int.toNat_natCast]
    rw [z]
theorem mul_ok {c n : Nat} (h : 1 ≤ n) (h2 : n ≤ 1000) : MulOk (T [c]) (n : Int) := by
  refine ⟨by simp; omega, fun _ _ => ?_, fun _ _ => ?_⟩
  · rw [T_len]
    have : (1 : Int) ≤ (2 ^ 63 - 1) / (n : Int) := by
      rw [Int.le_ediv_iff_mul_le (by omega)]
      omega
    simp only [List.length_cons, List.length_nil]
    omega
  · rw [T_len]
    simp [Builtin.Str.tooLong, sizeLine]
    omega
theorem up_T {c : Nat} (h : c ∈ FL) : ∃ d, d < 128 ∧ Txt.upper (T [c]) = T [d] := by
  have e : c = 97 ∨ c = 98 ∨ c = 99 ∨ c = 100 ∨ c = 101 ∨ c = 102 := by
    simp [FL] at h
    omega
  rcases e with rfl | rfl | rfl | rfl | rfl | rfl
  · exact ⟨65, by decide, by decide +kernel⟩
  · exact ⟨66, by decide, by decide +kernel⟩
  · exact ⟨67, by decide, by decide +kernel⟩
  · exact ⟨68, by decide, by decide +kernel⟩
  · exact ⟨69, by decide, by decide +kernel⟩
  · exact ⟨70, by decide, by decide +kernel⟩
theorem srt_T {l : List Nat} : ∃ l' : List Nat, l'.Perm l ∧ srtD (signsOf (T l)) = l'.map sgn := by
  rw [T_signs]
  exact perm_map (List.mergeSort_perm _ _)
theorem sorted_T {l : List Nat} {P : SV → Prop} (hl : l.length ≤ 1000) (h : ∀ l' : List Nat, l'.Perm l → P (.own (.lst (l'.map sgn)))) : dSorted [tD l] P := by
  obtain ⟨l', p, e⟩ := srt_T (l := l)
  refine ⟨by simp [T]; unfold sizeLine; omega, ?_⟩
  rw [e]
  exact h l' p
theorem tx_perm {l l' : List Nat} (h : tx l) (p : l'.Perm l) : tx l' := ⟨fun c hc => h.1 c (p.mem_iff.mp hc), by rw [p.length_eq]; exact h.2⟩
theorem tx_app {a b : List Nat} (ha : low a) (hb : low b) (h : a.length + b.length ≤ 700) : tx (a ++ b) := ⟨fun c hc => (List.mem_append.mp hc).elim (ha c) (hb c), by rw [List.length_append]; exact h⟩
namespace S
def _law_bad_lot : DSp := fun cs ds P => ∃ (z : Sto) (k : Nat) (f : List Nat), cs = [z.d] ∧ ds = [tD f] ∧ z.ok (k + 10) ∧ f ≠ [] ∧ f.length ≤ 6 ∧ (∀ c ∈ f, c ∈ FL) ∧ ∀ (z' : Sto) (t : List Nat), tx t → z'.ok k → P (.ok (.frz (tD t))) [z'.d]
end S
def r__law_bad_lot : DS := (dSeq (dSet 2 (dFnB S._law_take 0 (daCons (dC (.int 9)) daNil))) (dSeq (dSet 3 (dFnB S._law_pick 0 (daCons (dVar 1) daNil))) (dSeq (dSet 4 (dFnB S._law_lot 0 (daCons (dVar 1) daNil))) (dSeq (dIf (dOp dEq (dVar 2) (dC (.int 0))) (dRet (dM1 jJoin (dC (.str "")) (dCall dSorted (daCons (dOp dAdd (dOp dAdd (dVar 4) (dVarV 3)) (dVarV 3)) daNil)))) dPass) (dSeq (dIf (dAnd (dOp dEq (dVar 2) (dC (.int 1))) (dOp dGt (dCall dLen (daCons (dVarV 1) daNil)) (dC (.int 1)))) (dSeq (dSet 5 (dOp dAdd (dC (.int 1)) (dFnB S._law_take 0 (daCons (dOp dSub (dCall dLen (daCons (dVarV 1) daNil)) (dC (.int 1))) daNil)))) (dRet (dOp dAdd (dIxV 1 dIx (dVar 5)) (dSl (dVar 1) oNo (dPart (dVar 5)))))) dPass) (dSeq (dIf (dAnd (dOp dEq (dVar 2) (dC (.int 2))) (dOp dLtD (dCall dLen (daCons (dVarV 1) daNil)) (dC (.int 6)))) (dSeq (dSet 6 (dLc (dItems (dC (.str "abcdef"))) [7] (gN 7) (some (dOp (dIn true) (dVar 7) (dVarV 1))) (dVar 7))) (dRet (dM1 jJoin (dC (.str "")) (dCall dSorted (daCons (dOp dAdd (dVar 4) (dFnB S._law_pick 0 (daCons (dVar 6) daNil))) daNil))))) dPass) (dSeq (dIf (dOp dEq (dVar 2) (dC (.int 3))) (dRet (dOp dAdd (dFn S._law_less (daCons (dVar 4) (daCons (dVar 3) daNil))) (dM0 jUpper (dVar 3)))) dPass) (dSeq (dIf (dOp dEq (dVar 2) (dC (.int 4))) (dRet (dOp dAdd (dOp dAdd (dSl (dVar 4) oNo (dPart (dC (.int 1)))) (dC (.str " "))) (dSl (dVar 4) (dPart (dC (.int 1))) oNo))) dPass) (dSeq (dIf (dOp dEq (dVar 2) (dC (.int 5))) (dRet (dOp dAdd (dVar 3) (dOp dMul2 (dVar 3) (dOp dAdd (dC (.int 1)) (dFnB S._law_take 0 (daCons (dC (.int 599)) daNil)))))) dPass) (dSeq (dIf (dOp dEq (dVar 2) (dC (.int 6))) (dRet (dOp dAdd (dVar 4) (dFnB S._law_pick 0 (daCons (dC (.str "-}>.1A")) daNil)))) dPass) (dRet (dOp dAdd (dVar 4) (dFnB S._law_pick 0 (daCons (dC (.str "ghz")) daNil))))))))))))))
def N__law_bad_lot : List Str := ["store", "fields", "kind", "field", "lot", "at", "others", "letter"]
theorem use_pick {z : Sto} {k : Nat} {l : List Nat} {P : O → List D → Prop} (h : z.ok (k + 1)) (hn : l ≠ []) (hl : l.length ≤ 1000) (hp : ∀ c ∈ l, ∀ z' : Sto, z'.ok k → P (.ok (.frz (sgn c))) [z'.d]) : S._law_pick [z.d] [tD l] P := ⟨z, k, rfl, h, .inl ⟨l, rfl, hn, hl, hp⟩⟩
theorem FL_less {f : List Nat} (h : f.length < 6) : (FL.filter fun c => !decide (c ∈ f)) ≠ [] := by
  intro e
  have sub : ∀ c ∈ FL, c ∈ f := by
    intro c hc
    have := List.filter_eq_nil_iff.mp e c hc
    simpa using this
  have nd : FL.Nodup := by decide
  have : ∀ (l f : List Nat), l.Nodup → (∀ c ∈ l, c ∈ f) → l.length ≤ f.length := by
    intro l
    induction l with
    | nil => intros; simp
    | cons a l ih =>
      intro f nd hs
      have nd := List.nodup_cons.mp nd
      have ha := hs a (by simp)
      have := ih (f.erase a) nd.2 fun c hc => by
        have ne : c ≠ a := fun e => nd.1 (e ▸ hc)
        exact (List.mem_erase_of_ne ne).mpr (hs c (by simp [hc]))
      rw [List.length_erase_of_mem ha] at this
      have : 0 < f.length := List.length_pos_of_mem ha
      simp
      omega
  have := this FL f nd sub
  have : FL.length = 6 := rfl
  omega
theorem p__law_bad_lot : ∀ cs ds P, S._law_bad_lot cs ds P → cs.length = 1 ∧ cs.length + ds.length = 2 ∧ r__law_bad_lot (startD N__law_bad_lot cs ds) (endP 1 P) := by
  rintro _ _ P ⟨z, k, f, rfl, rfl, hz, hn, hf, h6, hp⟩
  refine ⟨rfl, rfl, ?_⟩
  have lf : low f := six_low h6
  simp [r__law_bad_lot, N__law_bad_lot, startD, endP, outs, dRet, dRetV, dsThen, dM1, dThen, daThen, dC, dLc, dItems, dVar, dVarV, still, D.items, D.isTxt, wipeD, SVd_f, SVd_o, SVd_b, SVm_f, SVm_o, SVm_b, SVp_f, SVp_o, SVp_b, dOp, dIn_s, dNotin_s, dEq_s, dEq_i, dEq_b, dNe_s, dNe_i, T_len, T_inj, dTT, lcTurn, gN, nbor, onB_bl, nborL, backD, T_subIn, dCall, daCons, daNil, dTup, dLst, dSeq, dIf, dPass, dSet, dDrop, dAsg, dOr, dAnd, dNot, dIfE, dIxV, dFn, dFnB, gT, gsCons, gsNil, SVd_f, SVd_o, SVd_b, dAdd_i, dSub_i, dInt_i, dLt_i, dGt_i, dGe_i, dLe_i, dEq_i, dNe_i]
  refine use_taken (m := 9) (k := k + 9) hz rfl (by decide) fun z1 r hz1 hr => ?_
  simp [startD, endP, outs, dRet, dRetV, dsThen, dM1, dThen, daThen, dC, dLc, dItems, dVar, dVarV, still, D.items, D.isTxt, wipeD, SVd_f, SVd_o, SVd_b, SVm_f, SVm_o, SVm_b, SVp_f, SVp_o, SVp_b, dOp, dIn_s, dNotin_s, dEq_s, dEq_i, dEq_b, dNe_s, dNe_i, T_len, T_inj, dTT, lcTurn, gN, nbor, onB_bl, nborL, backD, T_subIn, dCall, daCons, daNil, dTup, dLst, dSeq, dIf, dPass, dSet, dDrop, dAsg, dOr, dAnd, dNot, dIfE, dIxV, dFn, dFnB, gT, gsCons, gsNil, SVd_f, SVd_o, SVd_b, dAdd_i, dSub_i, dInt_i, dLt_i, dGt_i, dGe_i, dLe_i, dEq_i, dNe_i]
  refine use_pick (k := k + 8) hz1 hn (by omega) fun c hc z2 hz2 => ?_
  simp [startD, endP, outs, dRet, dRetV, dsThen, dM1, dThen, daThen, dC, dLc, dItems, dVar, dVarV, still, D.items, D.isTxt, wipeD, SVd_f, SVd_o, SVd_b, SVm_f, SVm_o, SVm_b, SVp_f, SVp_o, SVp_b, dOp, dIn_s, dNotin_s, dEq_s, dEq_i, dEq_b, dNe_s, dNe_i, T_len, T_inj, dTT, lcTurn, gN, nbor, onB_bl, nborL, backD, T_subIn, dCall, daCons, daNil, dTup, dLst, dSeq, dIf, dPass, dSet, dDrop, dAsg, dOr, dAnd, dNot, dIfE, dIxV, dFn, dFnB, gT, gsCons, gsNil, SVd_f, SVd_o, SVd_b, dAdd_i, dSub_i, dInt_i, dLt_i, dGt_i, dGe_i, dLe_i, dEq_i, dNe_i]
  refine ⟨z2, k + 1, f, rfl, rfl, hz2, hf, fun z3 t ht htl hz3 => ?_⟩
  have lt : low t := fun c hc => lf c (ht c hc)
  have lc : low [c] := by intro x hx; simp at hx; subst hx; exact lf _ hc
  have hz0 := hz3.le (show k ≤ k + 1 by omega)
  have last : ∀ (Q : O → List D → Prop), (∀ c, c < 128 → ∀ z' : Sto, z'.ok k → Q (.ok (.frz (sgn c))) [z'.d]) → S._law_pick [z3.d] [.str "ghz"] Q := fun Q hq =>
    use_pick (l := [103, 104, 122]) hz3 (by simp) (by simp) fun c hc z' hz' => hq c (by simp at hc; omega) z' hz'
  have last2 : ∀ (Q : O → List D → Prop), (∀ c, c < 128 → ∀ z' : Sto, z'.ok k → Q (.ok (.frz (sgn c))) [z'.d]) → S._law_pick [z3.d] [.str "-}>.1A"] Q := fun Q hq =>
    use_pick (l := [45, 125, 62, 46, 49, 65]) hz3 (by simp) (by simp) fun c hc z' hz' => hq c (by simp at hc; omega) z' hz'
  have fin : ∀ c : Nat, c < 128 → ∀ z' : Sto, z'.ok k → dAdd (tD t) (sgn c) fun s => P (.ok s) [z'.d] := fun c hc z' hz' =>
    dAdd_s (by simp; omega) (hp z' _ (tx_app lt (by intro x hx; simp at hx; omega) (by simp; omega)) hz')
  have e : r = 0 ∨ r = 1 ∨ r = 2 ∨ r = 3 ∨ r = 4 ∨ r = 5 ∨ r = 6 ∨ r = 7 ∨ r = 8 := by omega
  clear hz hz1 hr
  rcases e with rfl | rfl | rfl | rfl | rfl | rfl | rfl | rfl | rfl
  · simp [startD, endP, outs, dRet, dRetV, dsThen, dM1, dThen, daThen, dC, dLc, dItems, dVar, dVarV, still, D.items, D.isTxt, wipeD, SVd_f, SVd_o, SVd_b, SVm_f, SVm_o, SVm_b, SVp_f, SVp_o, SVp_b, dOp, dIn_s, dNotin_s, dEq_s, dEq_i, dEq_b, dNe_s, dNe_i, T_len, T_inj, dTT, lcTurn, gN, nbor, onB_bl, nborL, backD, T_subIn, dCall, daCons, daNil, dTup, dLst, dSeq, dIf, dPass, dSet, dDrop, dAsg, dOr, dAnd, dNot, dIfE, dIxV, dFn, dFnB, gT, gsCons, gsNil, SVd_f, SVd_o, SVd_b, dAdd_i, dSub_i, dInt_i, dLt_i, dGt_i, dGe_i, dLe_i, dEq_i, dNe_i]
    refine dAdd_s (by simp; omega) ?_
    refine dAdd_s (by simp; omega) ?_
    refine sorted_T (by simp; omega) fun l' pl => ?_
    simp [SVd_o]
    rw [empty_T]
    have e := pl.length_eq
    simp only [List.length_append, List.length_cons, List.length_nil] at e
    refine jJoin_signs (by omega) ?_
    exact hp z3 l' (tx_perm (tx_app (tx_app lt lc (by simp; omega)).1 lc (by simp; omega)) pl) hz0
  · simp [startD, endP, outs, dRet, dRetV, dsThen, dM1, dThen, daThen, dC, dLc, dItems, dVar, dVarV, still, D.items, D.isTxt, wipeD, SVd_f, SVd_o, SVd_b, SVm_f, SVm_o, SVm_b, SVp_f, SVp_o, SVp_b, dOp, dIn_s, dNotin_s, dEq_s, dEq_i, dEq_b, dNe_s, dNe_i, T_len, T_inj, dTT, lcTurn, gN, nbor, onB_bl, nborL, backD, T_subIn, dCall, daCons, daNil, dTup, dLst, dSeq, dIf, dPass, dSet, dDrop, dAsg, dOr, dAnd, dNot, dIfE, dIxV, dFn, dFnB, gT, gsCons, gsNil, SVd_f, SVd_o, SVd_b, dAdd_i, dSub_i, dInt_i, dLt_i, dGt_i, dGe_i, dLe_i, dEq_i, dNe_i, dLen]
    refine ⟨by unfold sizeLine; omega, ifP (fun h => ?_) (fun h => ?_)⟩
    · refine ⟨by unfold sizeLine; omega, ?_⟩
      refine use_taken (m := f.length - 1) (i := (f.length : Int) - 1) (k := k) hz3 (by omega) (by omega) fun z4 q hz4 hq => ?_
      have hq2 : 1 + q < f.length := by omega
      have e : (1 : Int) + q = ((1 + q : Nat) : Int) := by omega
      have ei : atI f (1 + (q : Int)) = some f[1 + q] := by rw [e]; exact atI_nat hq2
      simp [startD, endP, outs, dRet, dRetV, dsThen, dM1, dThen, daThen, dC, dLc, dItems, dVar, dVarV, still, D.items, D.isTxt, wipeD, SVd_f, SVd_o, SVd_b, SVm_f, SVm_o, SVm_b, SVp_f, SVp_o, SVp_b, dOp, dIn_s, dNotin_s, dEq_s, dEq_i, dEq_b, dNe_s, dNe_i, T_len, T_inj, dTT, lcTurn, gN, nbor, onB_bl, nborL, backD, T_subIn, dCall, daCons, daNil, dTup, dLst, dSeq, dIf, dPass, dSet, dDrop, dAsg, dOr, dAnd, dNot, dIfE, dIxV, dFn, dFnB, gT, gsCons, gsNil, SVd_f, SVd_o, SVd_b, dAdd_i, dSub_i, dInt_i, dLt_i, dGt_i, dGe_i, dLe_i, dEq_i, dNe_i, dIx, ei, dSl, oNo, dPart, D.part]
      refine ⟨by unfold sizeLine; omega, ?_⟩
      refine cut_sub (by omega) fun l1 s1 n1 => ?_
      have hm : f[1 + q] ∈ f := List.getElem_mem _
      refine dAdd_s (by simp; omega) ?_
      exact hp z4 _ (tx_app (by intro x hx; simp at hx; subst hx; exact lf _ hm) (fun x hx => lf x (s1 x hx)) (by simp; omega)) hz4
    · refine last _ fun c hc z' hz' => ?_
      simp [startD, endP, outs, dRet, dRetV, dsThen, dM1, dThen, daThen, dC, dLc, dItems, dVar, dVarV, still, D.items, D.isTxt, wipeD, SVd_f, SVd_o, SVd_b, SVm_f, SVm_o, SVm_b, SVp_f, SVp_o, SVp_b, dOp, dIn_s, dNotin_s, dEq_s, dEq_i, dEq_b, dNe_s, dNe_i, T_len, T_inj, dTT, lcTurn, gN, nbor, onB_bl, nborL, backD, T_subIn, dCall, daCons, daNil, dTup, dLst, dSeq, dIf, dPass, dSet, dDrop, dAsg, dOr, dAnd, dNot, dIfE, dIxV, dFn, dFnB, gT, gsCons, gsNil, SVd_f, SVd_o, SVd_b, dAdd_i, dSub_i, dInt_i, dLt_i, dGt_i, dGe_i, dLe_i, dEq_i, dNe_i]
      exact fin c hc z' hz'
  · simp [startD, endP, outs, dRet, dRetV, dsThen, dM1, dThen, daThen, dC, dLc, dItems, dVar, dVarV, still, D.items, D.isTxt, wipeD, SVd_f, SVd_o, SVd_b, SVm_f, SVm_o, SVm_b, SVp_f, SVp_o, SVp_b, dOp, dIn_s, dNotin_s, dEq_s, dEq_i, dEq_b, dNe_s, dNe_i, T_len, T_inj, dTT, lcTurn, gN, nbor, onB_bl, nborL, backD, T_subIn, dCall, daCons, daNil, dTup, dLst, dSeq, dIf, dPass, dSet, dDrop, dAsg, dOr, dAnd, dNot, dIfE, dIxV, dFn, dFnB, gT, gsCons, gsNil, SVd_f, SVd_o, SVd_b, dAdd_i, dSub_i, dInt_i, dLt_i, dGt_i, dGe_i, dLe_i, dEq_i, dNe_i, dLen]
    refine ⟨by unfold sizeLine; omega, ifP (fun h => ?_) (fun h => ?_)⟩
    · rw [FL_T]
      refine lcSigns (p := fun c => !decide (c ∈ f)) (val := sgn) (fun x _ K hk => ?_) (by decide) ?_
      · simp [startD, endP, outs, dRet, dRetV, dsThen, dM1, dThen, daThen, dC, dLc, dItems, dVar, dVarV, still, D.items, D.isTxt, wipeD, SVd_f, SVd_o, SVd_b, SVm_f, SVm_o, SVm_b, SVp_f, SVp_o, SVp_b, dOp, dIn_s, dNotin_s, dEq_s, dEq_i, dEq_b, dNe_s, dNe_i, T_len, T_inj, dTT, lcTurn, gN, nbor, onB_bl, nborL, backD, T_subIn, dCall, daCons, daNil, dTup, dLst, dSeq, dIf, dPass, dSet, dDrop, dAsg, dOr, dAnd, dNot, dIfE, dIxV, dFn, dFnB, gT, gsCons, gsNil, SVd_f, SVd_o, SVd_b, dAdd_i, dSub_i, dInt_i, dLt_i, dGt_i, dGe_i, dLe_i, dEq_i, dNe_i]
        by_cases hx : x ∈ f <;> simpa [hx] using hk
      · simp [startD, endP, outs, dRet, dRetV, dsThen, dM1, dThen, daThen, dC, dLc, dItems, dVar, dVarV, still, D.items, D.isTxt, wipeD, SVd_f, SVd_o, SVd_b, SVm_f, SVm_o, SVm_b, SVp_f, SVp_o, SVp_b, dOp, dIn_s, dNotin_s, dEq_s, dEq_i, dEq_b, dNe_s, dNe_i, T_len, T_inj, dTT, lcTurn, gN, nbor, onB_bl, nborL, backD, T_subIn, dCall, daCons, daNil, dTup, dLst, dSeq, dIf, dPass, dSet, dDrop, dAsg, dOr, dAnd, dNot, dIfE, dIxV, dFn, dFnB, gT, gsCons, gsNil, SVd_f, SVd_o, SVd_b, dAdd_i, dSub_i, dInt_i, dLt_i, dGt_i, dGe_i, dLe_i, dEq_i, dNe_i]
        have hne := FL_less (f := f) (by omega)
        have hle := List.length_filter_le (fun c => !decide (c ∈ f)) FL
        have h6l : FL.length = 6 := rfl
        refine ⟨z3, k, rfl, hz3, .inr ⟨_, rfl, by simpa using hne, by rw [List.length_map]; omega, fun d hd z' hz' => ?_⟩⟩
        obtain ⟨x, hx, rfl⟩ := List.mem_map.mp hd
        have hx := (List.mem_filter.mp hx).1
        simp [SVd_f]
        refine dAdd_s (by simp; omega) ?_
        refine sorted_T (by simp; omega) fun l' pl => ?_
        have e := pl.length_eq
        simp only [List.length_append, List.length_cons, List.length_nil] at e
        simp [SVd_o]
        rw [empty_T]
        refine jJoin_signs (by omega) ?_
        exact hp z' l' (tx_perm (tx_app lt (by intro y hy; simp at hy; subst hy; exact six_low (t := FL) (fun _ h => h) _ hx) (by simp; omega)) pl) hz'
    · refine last _ fun c hc z' hz' => ?_
      simp [startD, endP, outs, dRet, dRetV, dsThen, dM1, dThen, daThen, dC, dLc, dItems, dVar, dVarV, still, D.items, D.isTxt, wipeD, SVd_f, SVd_o, SVd_b, SVm_f, SVm_o, SVm_b, SVp_f, SVp_o, SVp_b, dOp, dIn_s, dNotin_s, dEq_s, dEq_i, dEq_b, dNe_s, dNe_i, T_len, T_inj, dTT, lcTurn, gN, nbor, onB_bl, nborL, backD, T_subIn, dCall, daCons, daNil, dTup, dLst, dSeq, dIf, dPass, dSet, dDrop, dAsg, dOr, dAnd, dNot, dIfE, dIxV, dFn, dFnB, gT, gsCons, gsNil, SVd_f, SVd_o, SVd_b, dAdd_i, dSub_i, dInt_i, dLt_i, dGt_i, dGe_i, dLe_i, dEq_i, dNe_i]
      exact fin c hc z' hz'
  · simp [startD, endP, outs, dRet, dRetV, dsThen, dM1, dThen, daThen, dC, dLc, dItems, dVar, dVarV, still, D.items, D.isTxt, wipeD, SVd_f, SVd_o, SVd_b, SVm_f, SVm_o, SVm_b, SVp_f, SVp_o, SVp_b, dOp, dIn_s, dNotin_s, dEq_s, dEq_i, dEq_b, dNe_s, dNe_i, T_len, T_inj, dTT, lcTurn, gN, nbor, onB_bl, nborL, backD, T_subIn, dCall, daCons, daNil, dTup, dLst, dSeq, dIf, dPass, dSet, dDrop, dAsg, dOr, dAnd, dNot, dIfE, dIxV, dFn, dFnB, gT, gsCons, gsNil, SVd_f, SVd_o, SVd_b, dAdd_i, dSub_i, dInt_i, dLt_i, dGt_i, dGe_i, dLe_i, dEq_i, dNe_i, S._law_less, dM0, jUpper, S.without]
    refine ⟨t, [c], ⟨rfl, rfl⟩, by omega, ?_⟩
    obtain ⟨d, d1, d2⟩ := up_T (h6 c hc)
    have lo := len_off (a := t) (b := [c])
    rw [d2]
    refine dAdd_s (by simp; omega) ?_
    exact hp z3 _ (tx_app (fun x hx => lt x (List.mem_filter.mp hx).1) (by intro y hy; simp at hy; omega) (by simp; omega)) hz0
  · simp [startD, endP, outs, dRet, dRetV, dsThen, dM1, dThen, daThen, dC, dLc, dItems, dVar, dVarV, still, D.items, D.isTxt, wipeD, SVd_f, SVd_o, SVd_b, SVm_f, SVm_o, SVm_b, SVp_f, SVp_o, SVp_b, dOp, dIn_s, dNotin_s, dEq_s, dEq_i, dEq_b, dNe_s, dNe_i, T_len, T_inj, dTT, lcTurn, gN, nbor, onB_bl, nborL, backD, T_subIn, dCall, daCons, daNil, dTup, dLst, dSeq, dIf, dPass, dSet, dDrop, dAsg, dOr, dAnd, dNot, dIfE, dIxV, dFn, dFnB, gT, gsCons, gsNil, SVd_f, SVd_o, SVd_b, dAdd_i, dSub_i, dInt_i, dLt_i, dGt_i, dGe_i, dLe_i, dEq_i, dNe_i, dSl, oNo, dPart, D.part]
    refine cut_sub (by omega) fun l1 s1 n1 => ?_
    refine dAdd_s (a := l1) (b := [32]) (by simp; omega) ?_
    refine cut_sub (by omega) fun l2 s2 n2 => ?_
    refine dAdd_s (by simp; omega) ?_
    exact hp z3 _ (tx_app (tx_app (fun x hx => lt x (s1 x hx)) (by intro y hy; simp at hy; omega) (by simp; omega)).1 (fun x hx => lt x (s2 x hx)) (by simp; omega)) hz0
  · simp [startD, endP, outs, dRet, dRetV, dsThen, dM1, dThen, daThen, dC, dLc, dItems, dVar, dVarV, still, D.items, D.isTxt, wipeD, SVd_f, SVd_o, SVd_b, SVm_f, SVm_o, SVm_b, SVp_f, SVp_o, SVp_b, dOp, dIn_s, dNotin_s, dEq_s, dEq_i, dEq_b, dNe_s, dNe_i, T_len, T_inj, dTT, lcTurn, gN, nbor, onB_bl, nborL, backD, T_subIn, dCall, daCons, daNil, dTup, dLst, dSeq, dIf, dPass, dSet, dDrop, dAsg, dOr, dAnd, dNot, dIfE, dIxV, dFn, dFnB, gT, gsCons, gsNil, SVd_f, SVd_o, SVd_b, dAdd_i, dSub_i, dInt_i, dLt_i, dGt_i, dGe_i, dLe_i, dEq_i, dNe_i]
    refine use_taken (m := 599) (k := k) hz3 rfl (by decide) fun z4 q hz4 hq => ?_
    have e : (1 : Int) + q = ((1 + q : Nat) : Int) := by omega
    simp only [SVd_f, SVd_o, SVd_b, dAdd_i, dSub_i, dInt_i, dLt_i, dGt_i, dGe_i, dLe_i, dEq_i, dNe_i, e]
    simp [startD, endP, outs, dRet, dRetV, dsThen, dM1, dThen, daThen, dC, dLc, dItems, dVar, dVarV, still, D.items, D.isTxt, wipeD, SVd_f, SVd_o, SVd_b, SVm_f, SVm_o, SVm_b, SVp_f, SVp_o, SVp_b, dOp, dIn_s, dNotin_s, dEq_s, dEq_i, dEq_b, dNe_s, dNe_i, T_len, T_inj, dTT, lcTurn, gN, nbor, onB_bl, nborL, backD, T_subIn, dCall, daCons, daNil, dTup, dLst, dSeq, dIf, dPass, dSet, dDrop, dAsg, dOr, dAnd, dNot, dIfE, dIxV, dFn, dFnB, gT, gsCons, gsNil, SVd_f, SVd_o, SVd_b, dAdd_i, dSub_i, dInt_i, dLt_i, dGt_i, dGe_i, dLe_i, dEq_i, dNe_i, dMul2]
    rw [e, mul_T (by omega)]
    refine ⟨mul_ok (by omega) (by omega), ?_⟩
    refine dAdd_s (by simp; omega) ?_
    exact hp z4 _ (tx_app lc (fun x hx => by rw [List.mem_replicate] at hx; rw [hx.2]; exact lf _ hc) (by simp; omega)) hz4
  · simp [startD, endP, outs, dRet, dRetV, dsThen, dM1, dThen, daThen, dC, dLc, dItems, dVar, dVarV, still, D.items, D.isTxt, wipeD, SVd_f, SVd_o, SVd_b, SVm_f, SVm_o, SVm_b, SVp_f, SVp_o, SVp_b, dOp, dIn_s, dNotin_s, dEq_s, dEq_i, dEq_b, dNe_s, dNe_i, T_len, T_inj, dTT, lcTurn, gN, nbor, onB_bl, nborL, backD, T_subIn, dCall, daCons, daNil, dTup, dLst, dSeq, dIf, dPass, dSet, dDrop, dAsg, dOr, dAnd, dNot, dIfE, dIxV, dFn, dFnB, gT, gsCons, gsNil, SVd_f, SVd_o, SVd_b, dAdd_i, dSub_i, dInt_i, dLt_i, dGt_i, dGe_i, dLe_i, dEq_i, dNe_i]
    refine last2 _ fun c hc z' hz' => ?_
    simp [startD, endP, outs, dRet, dRetV, dsThen, dM1, dThen, daThen, dC, dLc, dItems, dVar, dVarV, still, D.items, D.isTxt, wipeD, SVd_f, SVd_o, SVd_b, SVm_f, SVm_o, SVm_b, SVp_f, SVp_o, SVp_b, dOp, dIn_s, dNotin_s, dEq_s, dEq_i, dEq_b, dNe_s, dNe_i, T_len, T_inj, dTT, lcTurn, gN, nbor, onB_bl, nborL, backD, T_subIn, dCall, daCons, daNil, dTup, dLst, dSeq, dIf, dPass, dSet, dDrop, dAsg, dOr, dAnd, dNot, dIfE, dIxV, dFn, dFnB, gT, gsCons, gsNil, SVd_f, SVd_o, SVd_b, dAdd_i, dSub_i, dInt_i, dLt_i, dGt_i, dGe_i, dLe_i, dEq_i, dNe_i]
    exact fin c hc z' hz'
  · simp [startD, endP, outs, dRet, dRetV, dsThen, dM1, dThen, daThen, dC, dLc, dItems, dVar, dVarV, still, D.items, D.isTxt, wipeD, SVd_f, SVd_o, SVd_b, SVm_f, SVm_o, SVm_b, SVp_f, SVp_o, SVp_b, dOp, dIn_s, dNotin_s, dEq_s, dEq_i, dEq_b, dNe_s, dNe_i, T_len, T_inj, dTT, lcTurn, gN, nbor, onB_bl, nborL, backD, T_subIn, dCall, daCons, daNil, dTup, dLst, dSeq, dIf, dPass, dSet, dDrop, dAsg, dOr, dAnd, dNot, dIfE, dIxV, dFn, dFnB, gT, gsCons, gsNil, SVd_f, SVd_o, SVd_b, dAdd_i, dSub_i, dInt_i, dLt_i, dGt_i, dGe_i, dLe_i, dEq_i, dNe_i]
    refine last _ fun c hc z' hz' => ?_
    simp [startD, endP, outs, dRet, dRetV, dsThen, dM1, dThen, daThen, dC, dLc, dItems, dVar, dVarV, still, D.items, D.isTxt, wipeD, SVd_f, SVd_o, SVd_b, SVm_f, SVm_o, SVm_b, SVp_f, SVp_o, SVp_b, dOp, dIn_s, dNotin_s, dEq_s, dEq_i, dEq_b, dNe_s, dNe_i, T_len, T_inj, dTT, lcTurn, gN, nbor, onB_bl, nborL, backD, T_subIn, dCall, daCons, daNil, dTup, dLst, dSeq, dIf, dPass, dSet, dDrop, dAsg, dOr, dAnd, dNot, dIfE, dIxV, dFn, dFnB, gT, gsCons, gsNil, SVd_f, SVd_o, SVd_b, dAdd_i, dSub_i, dInt_i, dLt_i, dGt_i, dGe_i, dLe_i, dEq_i, dNe_i]
    exact fin c hc z' hz'
  · simp [startD, endP, outs, dRet, dRetV, dsThen, dM1, dThen, daThen, dC, dLc, dItems, dVar, dVarV, still, D.items, D.isTxt, wipeD, SVd_f, SVd_o, SVd_b, SVm_f, SVm_o, SVm_b, SVp_f, SVp_o, SVp_b, dOp, dIn_s, dNotin_s, dEq_s, dEq_i, dEq_b, dNe_s, dNe_i, T_len, T_inj, dTT, lcTurn, gN, nbor, onB_bl, nborL, backD, T_subIn, dCall, daCons, daNil, dTup, dLst, dSeq, dIf, dPass, dSet, dDrop, dAsg, dOr, dAnd, dNot, dIfE, dIxV, dFn, dFnB, gT, gsCons, gsNil, SVd_f, SVd_o, SVd_b, dAdd_i, dSub_i, dInt_i, dLt_i, dGt_i, dGe_i, dLe_i, dEq_i, dNe_i]
    refine last _ fun c hc z' hz' => ?_
    simp [startD, endP, outs, dRet, dRetV, dsThen, dM1, dThen, daThen, dC, dLc, dItems, dVar, dVarV, still, D.items, D.isTxt, wipeD, SVd_f, SVd_o, SVd_b, SVm_f, SVm_o, SVm_b, SVp_f, SVp_o, SVp_b, dOp, dIn_s, dNotin_s, dEq_s, dEq_i, dEq_b, dNe_s, dNe_i, T_len, T_inj, dTT, lcTurn, gN, nbor, onB_bl, nborL, backD, T_subIn, dCall, daCons, daNil, dTup, dLst, dSeq, dIf, dPass, dSet, dDrop, dAsg, dOr, dAnd, dNot, dIfE, dIxV, dFn, dFnB, gT, gsCons, gsNil, SVd_f, SVd_o, SVd_b, dAdd_i, dSub_i, dInt_i, dLt_i, dGt_i, dGe_i, dLe_i, dEq_i, dNe_i]
    exact fin c hc z' hz'
end K01

set_option Elab.async false
set_option linter.all false
set_option maxRecDepth 100000
set_option maxHeartbeats 4000000
namespace K01
open PySem PySem.Spec L2 Ow
set_option autoImplicit false
namespace S
def _law_bad_fields : DSp := fun cs ds P => ∃ (z : Sto) (k : Nat), cs = [z.d] ∧ ds = [] ∧ z.ok (k + 11) ∧ ∀ (z' : Sto) (t : List Nat), tx t → z'.ok k → P (.ok (.frz (tD t))) [z'.d]
def _law_bad_case : DSp := fun cs ds P => ∃ (z : Sto) (k : Nat) (f : List Nat), cs = [z.d] ∧ ds = [tD f] ∧ z.ok (k + 18) ∧ fok f = true ∧ ∀ (z' : Sto) (l : Cs), okC l → z'.ok k → P (.ok (.frz (cD l))) [z'.d]
def _law_any_case : DSp := fun cs ds P => ∃ (z : Sto) (k : Nat) (f : List Nat), cs = [z.d] ∧ ds = [tD f] ∧ z.ok (k + 19) ∧ fok f = true ∧ ∀ (z' : Sto) (l : Cs), okC l → z'.ok k → P (.ok (.frz (cD l))) [z'.d]
end S
def r__law_bad_fields : DS := (dSeq (dIf (dOp dEq (dFnB S._law_take 0 (daCons (dC (.int 3)) daNil)) (dC (.int 0))) (dRet (dC (.str ""))) dPass) (dRet (dFnB S._law_bad_lot 0 (daCons (dC (.str "abcdef")) daNil))))
def N__law_bad_fields : List Str := ["store"]
def r__law_bad_case : DS := (dSeq (dSet 2 (dFnB S._law_take 0 (daCons (dC (.int 7)) daNil))) (dSeq (dAsg (dFnB S._law_case 0 (daCons (dVar 1) daNil)) (gT (gsCons (gN 3) (gsCons (gN 4) gsNil)))) (dSeq (dIf (dOp dEq (dVar 2) (dC (.int 0))) (dRet (dTup daNil)) dPass) (dSeq (dIf (dOp dEq (dVar 2) (dC (.int 1))) (dRet (dTup (daCons (dVar 3) daNil))) dPass) (dSeq (dIf (dOp dEq (dVar 2) (dC (.int 2))) (dRet (dTup (daCons (dVar 3) (daCons (dVar 4) (daCons (dC (.str "")) daNil))))) dPass) (dSeq (dIf (dOp dEq (dVar 2) (dC (.int 3))) (dRet (dTup (daCons (dFnB S._law_bad_lot 0 (daCons (dVar 1) daNil)) (daCons (dVar 4) daNil)))) dPass) (dSeq (dIf (dOp dEq (dVar 2) (dC (.int 4))) (dRet (dTup (daCons (dVar 3) (daCons (dFnB S._law_bad_lot 0 (daCons (dVar 1) daNil)) daNil)))) dPass) (dSeq (dIf (dOp dEq (dVar 2) (dC (.int 5))) (dRet (dTup (daCons (dVar 3) (daCons (dVar 4) (daCons (dVar 3) (daCons (dVar 4) daNil)))))) dPass) (dSeq (dSet 5 (dFnB S._law_pick 0 (daCons (dVar 1) daNil))) (dRet (dTup (daCons (dFn S._law_union (daCons (dVar 3) (daCons (dVar 5) daNil))) (daCons (dFn S._law_union (daCons (dVar 4) (daCons (dVar 5) daNil))) daNil)))))))))))))
def N__law_bad_case : List Str := ["store", "fields", "kind", "ahead", "behind", "field"]
def r__law_any_case : DS := (dSeq (dSet 2 (dFnB S._law_take 0 (daCons (dC (.int 6)) daNil))) (dSeq (dIf (dOp dLtD (dVar 2) (dC (.int 2))) (dRet (dFnB S._law_bad_case 0 (daCons (dVar 1) daNil))) dPass) (dSeq (dIf (dOp dEq (dVar 2) (dC (.int 2))) (dRet (dFnB S._law_case 0 (daCons (dC (.str "abcdef")) daNil))) dPass) (dRet (dFnB S._law_case 0 (daCons (dVar 1) daNil))))))
def N__law_any_case : List Str := ["store", "fields", "kind"]
theorem use_case {z : Sto} {k : Nat} {f : List Nat} {P : O → List D → Prop} (h : z.ok (k + 7)) (hk : fok f = true) (hp : ∀ (z' : Sto) (a b : List Nat), goodC f [a, b] = true → z'.ok k → P (.ok (.frz (cD [a, b]))) [z'.d]) : S._law_case [z.d] [tD f] P := ⟨z, k, f, rfl, rfl, h, hk, hp⟩
theorem use_bad {z : Sto} {k : Nat} {f : List Nat} {P : O → List D → Prop} (h : z.ok (k + 10)) (hk : fok f = true) (hp : ∀ (z' : Sto) (t : List Nat), tx t → z'.ok k → P (.ok (.frz (tD t))) [z'.d]) : S._law_bad_lot [z.d] [tD f] P := ⟨z, k, f, rfl, rfl, h, fok_ne hk, fok_len hk, fok_six hk, hp⟩
theorem fok_FL : fok FL = true := by decide
theorem tx_nil : tx [] := ⟨(by intro c hc; cases hc), by decide⟩
theorem p__law_bad_fields : ∀ cs ds P, S._law_bad_fields cs ds P → cs.length = 1 ∧ cs.length + ds.length = 1 ∧ r__law_bad_fields (startD N__law_bad_fields cs ds) (endP 1 P) := by
  rintro _ _ P ⟨z, k, rfl, rfl, hz, hp⟩
  refine ⟨rfl, rfl, ?_⟩
  simp [r__law_bad_fields, N__law_bad_fields, startD, endP, outs, dRet, dRetV, dsThen, dM1, dThen, daThen, dC, dLc, dItems, dVar, dVarV, still, D.items, D.isTxt, wipeD, SVd_f, SVd_o, SVd_b, SVm_f, SVm_o, SVm_b, SVp_f, SVp_o, SVp_b, dOp, dIn_s, dNotin_s, dEq_s, dEq_i, dEq_b, dNe_s, dNe_i, T_len, T_inj, dTT, lcTurn, gN, nbor, onB_bl, nborL, backD, T_subIn, dCall, daCons, daNil, dTup, dLst, dSeq, dIf, dPass, dSet, dDrop, dAsg, dOr, dAnd, dNot, dIfE, dIxV, dFn, dFnB, gT, gsCons, gsNil, SVd_f, SVd_o, SVd_b, dAdd_i, dSub_i, dInt_i, dLt_i, dGt_i, dGe_i, dLe_i, dEq_i, dNe_i]
  refine use_taken (m := 3) (k := k + 10) hz rfl (by decide) fun z1 r hz1 hr => ?_
  simp [startD, endP, outs, dRet, dRetV, dsThen, dM1, dThen, daThen, dC, dLc, dItems, dVar, dVarV, still, D.items, D.isTxt, wipeD, SVd_f, SVd_o, SVd_b, SVm_f, SVm_o, SVm_b, SVp_f, SVp_o, SVp_b, dOp, dIn_s, dNotin_s, dEq_s, dEq_i, dEq_b, dNe_s, dNe_i, T_len, T_inj, dTT, lcTurn, gN, nbor, onB_bl, nborL, backD, T_subIn, dCall, daCons, daNil, dTup, dLst, dSeq, dIf, dPass, dSet, dDrop, dAsg, dOr, dAnd, dNot, dIfE, dIxV, dFn, dFnB, gT, gsCons, gsNil, SVd_f, SVd_o, SVd_b, dAdd_i, dSub_i, dInt_i, dLt_i, dGt_i, dGe_i, dLe_i, dEq_i, dNe_i]
  refine ifP (fun h => ?_) (fun h => ?_)
  · exact hp z1 [] tx_nil (hz1.le (by omega))
  · rw [FL_T]
    refine use_bad (k := k) hz1 fok_FL fun z2 t ht hz2 => ?_
    simp [startD, endP, outs, dRet, dRetV, dsThen, dM1, dThen, daThen, dC, dLc, dItems, dVar, dVarV, still, D.items, D.isTxt, wipeD, SVd_f, SVd_o, SVd_b, SVm_f, SVm_o, SVm_b, SVp_f, SVp_o, SVp_b, dOp, dIn_s, dNotin_s, dEq_s, dEq_i, dEq_b, dNe_s, dNe_i, T_len, T_inj, dTT, lcTurn, gN, nbor, onB_bl, nborL, backD, T_subIn, dCall, daCons, daNil, dTup, dLst, dSeq, dIf, dPass, dSet, dDrop, dAsg, dOr, dAnd, dNot, dIfE, dIxV, dFn, dFnB, gT, gsCons, gsNil, SVd_f, SVd_o, SVd_b, dAdd_i, dSub_i, dInt_i, dLt_i, dGt_i, dGe_i, dLe_i, dEq_i, dNe_i]
    exact hp z2 t ht hz2
theorem tx_join {a b : List Nat} : tx (join a b) := ⟨six_low fun c hc => (mem_join.mp hc).1, Nat.le_trans len_join (by decide)⟩
theorem p__law_bad_case : ∀ cs ds P, S._law_bad_case cs ds P → cs.length = 1 ∧ cs.length + ds.length = 2 ∧ r__law_bad_case (startD N__law_bad_case cs ds) (endP 1 P) := by
  rintro _ _ P ⟨z, k, f, rfl, rfl, hz, hk, hp⟩
  refine ⟨rfl, rfl, ?_⟩
  simp [r__law_bad_case, N__law_bad_case, startD, endP, outs, dRet, dRetV, dsThen, dM1, dThen, daThen, dC, dLc, dItems, dVar, dVarV, still, D.items, D.isTxt, wipeD, SVd_f, SVd_o, SVd_b, SVm_f, SVm_o, SVm_b, SVp_f, SVp_o, SVp_b, dOp, dIn_s, dNotin_s, dEq_s, dEq_i, dEq_b, dNe_s, dNe_i, T_len, T_inj, dTT, lcTurn, gN, nbor, onB_bl, nborL, backD, T_subIn, dCall, daCons, daNil, dTup, dLst, dSeq, dIf, dPass, dSet, dDrop, dAsg, dOr, dAnd, dNot, dIfE, dIxV, dFn, dFnB, gT, gsCons, gsNil, SVd_f, SVd_o, SVd_b, dAdd_i, dSub_i, dInt_i, dLt_i, dGt_i, dGe_i, dLe_i, dEq_i, dNe_i]
  refine use_taken (m := 7) (k := k + 17) hz rfl (by decide) fun z1 r hz1 hr => ?_
  simp [startD, endP, outs, dRet, dRetV, dsThen, dM1, dThen, daThen, dC, dLc, dItems, dVar, dVarV, still, D.items, D.isTxt, wipeD, SVd_f, SVd_o, SVd_b, SVm_f, SVm_o, SVm_b, SVp_f, SVp_o, SVp_b, dOp, dIn_s, dNotin_s, dEq_s, dEq_i, dEq_b, dNe_s, dNe_i, T_len, T_inj, dTT, lcTurn, gN, nbor, onB_bl, nborL, backD, T_subIn, dCall, daCons, daNil, dTup, dLst, dSeq, dIf, dPass, dSet, dDrop, dAsg, dOr, dAnd, dNot, dIfE, dIxV, dFn, dFnB, gT, gsCons, gsNil, SVd_f, SVd_o, SVd_b, dAdd_i, dSub_i, dInt_i, dLt_i, dGt_i, dGe_i, dLe_i, dEq_i, dNe_i]
  refine use_case (k := k + 10) hz1 hk fun z2 a b g hz2 => ?_
  obtain ⟨ta, tb⟩ := good_tx hk g
  have s1 : 1 ≤ sizeLine := by decide
  have s2 : 2 ≤ sizeLine := by decide
  have s3 : 3 ≤ sizeLine := by decide
  have s4 : 4 ≤ sizeLine := by decide
  have hz0 := hz2.le (show k ≤ k + 10 by omega)
  have e : r = 0 ∨ r = 1 ∨ r = 2 ∨ r = 3 ∨ r = 4 ∨ r = 5 ∨ r = 6 := by omega
  clear hz hz1 hr
  rcases e with rfl | rfl | rfl | rfl | rfl | rfl | rfl
  · simp [startD, endP, outs, dRet, dRetV, dsThen, dM1, dThen, daThen, dC, dLc, dItems, dVar, dVarV, still, D.items, D.isTxt, wipeD, SVd_f, SVd_o, SVd_b, SVm_f, SVm_o, SVm_b, SVp_f, SVp_o, SVp_b, dOp, dIn_s, dNotin_s, dEq_s, dEq_i, dEq_b, dNe_s, dNe_i, T_len, T_inj, dTT, lcTurn, gN, nbor, onB_bl, nborL, backD, T_subIn, dCall, daCons, daNil, dTup, dLst, dSeq, dIf, dPass, dSet, dDrop, dAsg, dOr, dAnd, dNot, dIfE, dIxV, dFn, dFnB, gT, gsCons, gsNil, SVd_f, SVd_o, SVd_b, dAdd_i, dSub_i, dInt_i, dLt_i, dGt_i, dGe_i, dLe_i, dEq_i, dNe_i]
    exact hp z2 [] ⟨by simp, by simp⟩ hz0
  · simp [startD, endP, outs, dRet, dRetV, dsThen, dM1, dThen, daThen, dC, dLc, dItems, dVar, dVarV, still, D.items, D.isTxt, wipeD, SVd_f, SVd_o, SVd_b, SVm_f, SVm_o, SVm_b, SVp_f, SVp_o, SVp_b, dOp, dIn_s, dNotin_s, dEq_s, dEq_i, dEq_b, dNe_s, dNe_i, T_len, T_inj, dTT, lcTurn, gN, nbor, onB_bl, nborL, backD, T_subIn, dCall, daCons, daNil, dTup, dLst, dSeq, dIf, dPass, dSet, dDrop, dAsg, dOr, dAnd, dNot, dIfE, dIxV, dFn, dFnB, gT, gsCons, gsNil, SVd_f, SVd_o, SVd_b, dAdd_i, dSub_i, dInt_i, dLt_i, dGt_i, dGe_i, dLe_i, dEq_i, dNe_i]
    exact ⟨s1, hp z2 [a] ⟨by simp, by intro x hx; simp at hx; subst hx; exact ta⟩ hz0⟩
  · simp [startD, endP, outs, dRet, dRetV, dsThen, dM1, dThen, daThen, dC, dLc, dItems, dVar, dVarV, still, D.items, D.isTxt, wipeD, SVd_f, SVd_o, SVd_b, SVm_f, SVm_o, SVm_b, SVp_f, SVp_o, SVp_b, dOp, dIn_s, dNotin_s, dEq_s, dEq_i, dEq_b, dNe_s, dNe_i, T_len, T_inj, dTT, lcTurn, gN, nbor, onB_bl, nborL, backD, T_subIn, dCall, daCons, daNil, dTup, dLst, dSeq, dIf, dPass, dSet, dDrop, dAsg, dOr, dAnd, dNot, dIfE, dIxV, dFn, dFnB, gT, gsCons, gsNil, SVd_f, SVd_o, SVd_b, dAdd_i, dSub_i, dInt_i, dLt_i, dGt_i, dGe_i, dLe_i, dEq_i, dNe_i]
    exact ⟨s3, hp z2 [a, b, []] ⟨by simp, by intro x hx; simp at hx; rcases hx with rfl | rfl | rfl; exact ta; exact tb; exact tx_nil⟩ hz0⟩
  · simp [startD, endP, outs, dRet, dRetV, dsThen, dM1, dThen, daThen, dC, dLc, dItems, dVar, dVarV, still, D.items, D.isTxt, wipeD, SVd_f, SVd_o, SVd_b, SVm_f, SVm_o, SVm_b, SVp_f, SVp_o, SVp_b, dOp, dIn_s, dNotin_s, dEq_s, dEq_i, dEq_b, dNe_s, dNe_i, T_len, T_inj, dTT, lcTurn, gN, nbor, onB_bl, nborL, backD, T_subIn, dCall, daCons, daNil, dTup, dLst, dSeq, dIf, dPass, dSet, dDrop, dAsg, dOr, dAnd, dNot, dIfE, dIxV, dFn, dFnB, gT, gsCons, gsNil, SVd_f, SVd_o, SVd_b, dAdd_i, dSub_i, dInt_i, dLt_i, dGt_i, dGe_i, dLe_i, dEq_i, dNe_i]
    refine use_bad (k := k) hz2 hk fun z3 t ht hz3 => ?_
    simp [startD, endP, outs, dRet, dRetV, dsThen, dM1, dThen, daThen, dC, dLc, dItems, dVar, dVarV, still, D.items, D.isTxt, wipeD, SVd_f, SVd_o, SVd_b, SVm_f, SVm_o, SVm_b, SVp_f, SVp_o, SVp_b, dOp, dIn_s, dNotin_s, dEq_s, dEq_i, dEq_b, dNe_s, dNe_i, T_len, T_inj, dTT, lcTurn, gN, nbor, onB_bl, nborL, backD, T_subIn, dCall, daCons, daNil, dTup, dLst, dSeq, dIf, dPass, dSet, dDrop, dAsg, dOr, dAnd, dNot, dIfE, dIxV, dFn, dFnB, gT, gsCons, gsNil, SVd_f, SVd_o, SVd_b, dAdd_i, dSub_i, dInt_i, dLt_i, dGt_i, dGe_i, dLe_i, dEq_i, dNe_i]
    exact ⟨s2, hp z3 [t, b] ⟨by simp, by intro x hx; simp at hx; rcases hx with rfl | rfl; exact ht; exact tb⟩ hz3⟩
  · simp [startD, endP, outs, dRet, dRetV, dsThen, dM1, dThen, daThen, dC, dLc, dItems, dVar, dVarV, still, D.items, D.isTxt, wipeD, SVd_f, SVd_o, SVd_b, SVm_f, SVm_o, SVm_b, SVp_f, SVp_o, SVp_b, dOp, dIn_s, dNotin_s, dEq_s, dEq_i, dEq_b, dNe_s, dNe_i, T_len, T_inj, dTT, lcTurn, gN, nbor, onB_bl, nborL, backD, T_subIn, dCall, daCons, daNil, dTup, dLst, dSeq, dIf, dPass, dSet, dDrop, dAsg, dOr, dAnd, dNot, dIfE, dIxV, dFn, dFnB, gT, gsCons, gsNil, SVd_f, SVd_o, SVd_b, dAdd_i, dSub_i, dInt_i, dLt_i, dGt_i, dGe_i, dLe_i, dEq_i, dNe_i]
    refine use_bad (k := k) hz2 hk fun z3 t ht hz3 => ?_
    simp [startD, endP, outs, dRet, dRetV, dsThen, dM1, dThen, daThen, dC, dLc, dItems, dVar, dVarV, still, D.items, D.isTxt, wipeD, SVd_f, SVd_o, SVd_b, SVm_f, SVm_o, SVm_b, SVp_f, SVp_o, SVp_b, dOp, dIn_s, dNotin_s, dEq_s, dEq_i, dEq_b, dNe_s, dNe_i, T_len, T_inj, dTT, lcTurn, gN, nbor, onB_bl, nborL, backD, T_subIn, dCall, daCons, daNil, dTup, dLst, dSeq, dIf, dPass, dSet, dDrop, dAsg, dOr, dAnd, dNot, dIfE, dIxV, dFn, dFnB, gT, gsCons, gsNil, SVd_f, SVd_o, SVd_b, dAdd_i, dSub_i, dInt_i, dLt_i, dGt_i, dGe_i, dLe_i, dEq_i, dNe_i]
    exact ⟨s2, hp z3 [a, t] ⟨by simp, by intro x hx; simp at hx; rcases hx with rfl | rfl; exact ta; exact ht⟩ hz3⟩
  · simp [startD, endP, outs, dRet, dRetV, dsThen, dM1, dThen, daThen, dC, dLc, dItems, dVar, dVarV, still, D.items, D.isTxt, wipeD, SVd_f, SVd_o, SVd_b, SVm_f, SVm_o, SVm_b, SVp_f, SVp_o, SVp_b, dOp, dIn_s, dNotin_s, dEq_s, dEq_i, dEq_b, dNe_s, dNe_i, T_len, T_inj, dTT, lcTurn, gN, nbor, onB_bl, nborL, backD, T_subIn, dCall, daCons, daNil, dTup, dLst, dSeq, dIf, dPass, dSet, dDrop, dAsg, dOr, dAnd, dNot, dIfE, dIxV, dFn, dFnB, gT, gsCons, gsNil, SVd_f, SVd_o, SVd_b, dAdd_i, dSub_i, dInt_i, dLt_i, dGt_i, dGe_i, dLe_i, dEq_i, dNe_i]
    exact ⟨s4, hp z2 [a, b, a, b] ⟨by simp, by intro x hx; simp at hx; rcases hx with rfl | rfl | rfl | rfl; exact ta; exact tb; exact ta; exact tb⟩ hz0⟩
  · simp [startD, endP, outs, dRet, dRetV, dsThen, dM1, dThen, daThen, dC, dLc, dItems, dVar, dVarV, still, D.items, D.isTxt, wipeD, SVd_f, SVd_o, SVd_b, SVm_f, SVm_o, SVm_b, SVp_f, SVp_o, SVp_b, dOp, dIn_s, dNotin_s, dEq_s, dEq_i, dEq_b, dNe_s, dNe_i, T_len, T_inj, dTT, lcTurn, gN, nbor, onB_bl, nborL, backD, T_subIn, dCall, daCons, daNil, dTup, dLst, dSeq, dIf, dPass, dSet, dDrop, dAsg, dOr, dAnd, dNot, dIfE, dIxV, dFn, dFnB, gT, gsCons, gsNil, SVd_f, SVd_o, SVd_b, dAdd_i, dSub_i, dInt_i, dLt_i, dGt_i, dGe_i, dLe_i, dEq_i, dNe_i]
    refine use_pick (k := k + 9) hz2 (fok_ne hk) (Nat.le_trans (fok_len hk) (by decide)) fun c hc z3 hz3 => ?_
    simp [startD, endP, outs, dRet, dRetV, dsThen, dM1, dThen, daThen, dC, dLc, dItems, dVar, dVarV, still, D.items, D.isTxt, wipeD, SVd_f, SVd_o, SVd_b, SVm_f, SVm_o, SVm_b, SVp_f, SVp_o, SVp_b, dOp, dIn_s, dNotin_s, dEq_s, dEq_i, dEq_b, dNe_s, dNe_i, T_len, T_inj, dTT, lcTurn, gN, nbor, onB_bl, nborL, backD, T_subIn, dCall, daCons, daNil, dTup, dLst, dSeq, dIf, dPass, dSet, dDrop, dAsg, dOr, dAnd, dNot, dIfE, dIxV, dFn, dFnB, gT, gsCons, gsNil, SVd_f, SVd_o, SVd_b, dAdd_i, dSub_i, dInt_i, dLt_i, dGt_i, dGe_i, dLe_i, dEq_i, dNe_i, S._law_union, S.joined]
    refine ⟨a, [c], ⟨rfl, rfl⟩, b, [c], ⟨rfl, rfl⟩, s2, ?_⟩
    exact hp z3 [join a [c], join b [c]] ⟨by simp, by intro x hx; simp only [List.mem_cons, List.not_mem_nil, or_false] at hx; rcases hx with rfl | rfl <;> exact tx_join⟩ (hz3.le (by omega))
theorem p__law_any_case : ∀ cs ds P, S._law_any_case cs ds P → cs.length = 1 ∧ cs.length + ds.length = 2 ∧ r__law_any_case (startD N__law_any_case cs ds) (endP 1 P) := by
  rintro _ _ P ⟨z, k, f, rfl, rfl, hz, hk, hp⟩
  refine ⟨rfl, rfl, ?_⟩
  have two : ∀ {f a b : List Nat}, fok f = true → goodC f [a, b] = true → okC [a, b] := by
    intro f a b hk g
    obtain ⟨ta, tb⟩ := good_tx hk g
    exact ⟨by simp, by intro x hx; simp at hx; rcases hx with rfl | rfl; exact ta; exact tb⟩
  simp [r__law_any_case, N__law_any_case, startD, endP, outs, dRet, dRetV, dsThen, dM1, dThen, daThen, dC, dLc, dItems, dVar, dVarV, still, D.items, D.isTxt, wipeD, SVd_f, SVd_o, SVd_b, SVm_f, SVm_o, SVm_b, SVp_f, SVp_o, SVp_b, dOp, dIn_s, dNotin_s, dEq_s, dEq_i, dEq_b, dNe_s, dNe_i, T_len, T_inj, dTT, lcTurn, gN, nbor, onB_bl, nborL, backD, T_subIn, dCall, daCons, daNil, dTup, dLst, dSeq, dIf, dPass, dSet, dDrop, dAsg, dOr, dAnd, dNot, dIfE, dIxV, dFn, dFnB, gT, gsCons, gsNil, SVd_f, SVd_o, SVd_b, dAdd_i, dSub_i, dInt_i, dLt_i, dGt_i, dGe_i, dLe_i, dEq_i, dNe_i]
  refine use_taken (m := 6) (k := k + 18) hz rfl (by decide) fun z1 r hz1 hr => ?_
  simp [startD, endP, outs, dRet, dRetV, dsThen, dM1, dThen, daThen, dC, dLc, dItems, dVar, dVarV, still, D.items, D.isTxt, wipeD, SVd_f, SVd_o, SVd_b, SVm_f, SVm_o, SVm_b, SVp_f, SVp_o, SVp_b, dOp, dIn_s, dNotin_s, dEq_s, dEq_i, dEq_b, dNe_s, dNe_i, T_len, T_inj, dTT, lcTurn, gN, nbor, onB_bl, nborL, backD, T_subIn, dCall, daCons, daNil, dTup, dLst, dSeq, dIf, dPass, dSet, dDrop, dAsg, dOr, dAnd, dNot, dIfE, dIxV, dFn, dFnB, gT, gsCons, gsNil, SVd_f, SVd_o, SVd_b, dAdd_i, dSub_i, dInt_i, dLt_i, dGt_i, dGe_i, dLe_i, dEq_i, dNe_i]
  refine ifP (fun h => ?_) (fun h => ?_)
  · refine ⟨z1, k, f, rfl, rfl, hz1, hk, fun z2 l hl hz2 => ?_⟩
    simp [startD, endP, outs, dRet, dRetV, dsThen, dM1, dThen, daThen, dC, dLc, dItems, dVar, dVarV, still, D.items, D.isTxt, wipeD, SVd_f, SVd_o, SVd_b, SVm_f, SVm_o, SVm_b, SVp_f, SVp_o, SVp_b, dOp, dIn_s, dNotin_s, dEq_s, dEq_i, dEq_b, dNe_s, dNe_i, T_len, T_inj, dTT, lcTurn, gN, nbor, onB_bl, nborL, backD, T_subIn, dCall, daCons, daNil, dTup, dLst, dSeq, dIf, dPass, dSet, dDrop, dAsg, dOr, dAnd, dNot, dIfE, dIxV, dFn, dFnB, gT, gsCons, gsNil, SVd_f, SVd_o, SVd_b, dAdd_i, dSub_i, dInt_i, dLt_i, dGt_i, dGe_i, dLe_i, dEq_i, dNe_i]
    exact hp z2 l hl hz2
  · refine ifP (fun h => ?_) (fun h => ?_)
    · rw [FL_T]
      refine use_case (k := k + 11) hz1 fok_FL fun z2 a b g hz2 => ?_
      simp [startD, endP, outs, dRet, dRetV, dsThen, dM1, dThen, daThen, dC, dLc, dItems, dVar, dVarV, still, D.items, D.isTxt, wipeD, SVd_f, SVd_o, SVd_b, SVm_f, SVm_o, SVm_b, SVp_f, SVp_o, SVp_b, dOp, dIn_s, dNotin_s, dEq_s, dEq_i, dEq_b, dNe_s, dNe_i, T_len, T_inj, dTT, lcTurn, gN, nbor, onB_bl, nborL, backD, T_subIn, dCall, daCons, daNil, dTup, dLst, dSeq, dIf, dPass, dSet, dDrop, dAsg, dOr, dAnd, dNot, dIfE, dIxV, dFn, dFnB, gT, gsCons, gsNil, SVd_f, SVd_o, SVd_b, dAdd_i, dSub_i, dInt_i, dLt_i, dGt_i, dGe_i, dLe_i, dEq_i, dNe_i]
      exact hp z2 [a, b] (two fok_FL g) (hz2.le (by omega))
    · refine use_case (k := k + 11) hz1 hk fun z2 a b g hz2 => ?_
      simp [startD, endP, outs, dRet, dRetV, dsThen, dM1, dThen, daThen, dC, dLc, dItems, dVar, dVarV, still, D.items, D.isTxt, wipeD, SVd_f, SVd_o, SVd_b, SVm_f, SVm_o, SVm_b, SVp_f, SVp_o, SVp_b, dOp, dIn_s, dNotin_s, dEq_s, dEq_i, dEq_b, dNe_s, dNe_i, T_len, T_inj, dTT, lcTurn, gN, nbor, onB_bl, nborL, backD, T_subIn, dCall, daCons, daNil, dTup, dLst, dSeq, dIf, dPass, dSet, dDrop, dAsg, dOr, dAnd, dNot, dIfE, dIxV, dFn, dFnB, gT, gsCons, gsNil, SVd_f, SVd_o, SVd_b, dAdd_i, dSub_i, dInt_i, dLt_i, dGt_i, dGe_i, dLe_i, dEq_i, dNe_i]
      exact hp z2 [a, b] (two hk g) (hz2.le (by omega))
end K01

set_option Elab.async false
set_option linter.all false
set_option maxRecDepth 100000
set_option maxHeartbeats 4000000
namespace K01
open PySem PySem.Spec L2 Ow
set_option autoImplicit false
namespace S
def _law_thirds : DSp := fun cs ds P => ∃ (z : Sto) (k : Nat) (f : List Nat) (rs : List (List Nat)), cs = [z.d] ∧ ds = [tD f, rowsD rs] ∧ z.ok (k + 15) ∧ fok f = true ∧ rs.length = f.length ∧ (∀ r ∈ rs, r ≠ [] ∧ r.length ≤ 1000) ∧ ∀ (z' : Sto) (L : List Cs), L.length = 3 → (∀ l ∈ L, okC l) → z'.ok k → P (.ok (.own (.lst (L.map cD)))) [z'.d]
end S
def r__law_thirds : DS := (dSeq (dSet 3 (dLc (daMap (daCons (dCall dLen (daCons (dVarV 1) daNil)) daNil) kRng1) [4] (gN 4) none (dFnB S._law_pick 0 (daCons (dIxV 2 dIx (dVar 4)) daNil)))) (dSeq (dSet 5 (dLst (daCons (dFnS S._law_of_signs (dNames [1, 3])) daNil))) (dSeq (dSet 4 (dFnB S._law_take 0 (daCons (dCall dLen (daCons (dVarV 1) daNil)) daNil))) (dSeq (dLPutV 3 (dOp dMod (dCall dInt (daCons (dOp dAdd (dOp dAdd (dIxV 3 dIx (dVar 4)) (dC (.int 1))) (dFnB S._law_take 0 (daCons (dC (.int 2)) daNil))) daNil)) (dC (.int 3))) (dVar 4)) (dRet (dOp dAdd (dVar 5) (dLst (daCons (dFnS S._law_of_signs (dNames [1, 3])) (daCons (dFnB S._law_case 0 (daCons (dVar 1) daNil)) daNil)))))))))
def N__law_thirds : List Str := ["store", "fields", "signs", "row", "at", "thirds"]
theorem th_lc {z : Sto} {k : Nat} {f : List Nat} {rs : List (List Nat)} {Q : O → Ow.Env → Prop} (hz : z.ok (k + 6)) (hf : f.length ≤ 6) (hr : rs.length = f.length) (hn : ∀ r ∈ rs, r ≠ [] ∧ r.length ≤ 1000)
    (hq : ∀ (z' : Sto) (row : List Nat), row.length = f.length → z'.ok k → Q (.ok (.own (.lst (row.map nI)))) [some (.bor z'.d), some (.frz (tD f)), some (.frz (rowsD rs)), none, none, none]) :
    dLcGo [4] (gN 4) none (dFnB S._law_pick 0 (daCons (dIxV 2 dIx (dVar 4)) daNil)) ((List.range f.length).map nI) [] [some (.bor z.d), some (.frz (tD f)), some (.frz (rowsD rs)), none, none, none] Q := by
  refine lcInv (fun r acc ρ => ∃ (z' : Sto) (row : List Nat), acc = row.map nI ∧ ρ = [some (.bor z'.d), some (.frz (tD f)), some (.frz (rowsD rs)), none, none, none] ∧ row.length + r.length = f.length ∧ (∀ i ∈ r, i < f.length) ∧ z'.ok (k + r.length))
    (fun i r acc ρ hi K k1 k2 => ?_) (List.range f.length) [] _ ⟨z, [], rfl, rfl, by simp, by simp, hz.le (by simp; omega)⟩ (by unfold sizeLine; simp; omega) (fun acc ρ hi => ?_)
  · obtain ⟨z', row, rfl, rfl, i1, i2, i3⟩ := hi
    have h1 := i2 i (by simp)
    simp only [List.length_cons] at i1 i3
    have h2 : i < rs.length := by omega
    have e : atI (rs.map rowD) (i : Int) = some (rowD rs[i]) := by
      rw [atI_nat (by simpa using h2)]
      simp
    have hm := hn _ (List.getElem_mem h2)
    simp [startD, endP, outs, dRet, dRetV, dsThen, dM1, dThen, daThen, dC, dLc, dItems, dVar, dVarV, still, D.items, D.isTxt, wipeD, SVd_f, SVd_o, SVd_b, SVm_f, SVm_o, SVm_b, SVp_f, SVp_o, SVp_b, dOp, dIn_s, dNotin_s, dEq_s, dEq_i, dEq_b, dNe_s, dNe_i, T_len, T_inj, dTT, lcTurn, gN, nbor, onB_bl, nborL, backD, T_subIn, dCall, daCons, daNil, dTup, dLst, dSeq, dIf, dPass, dSet, dDrop, dAsg, dOr, dAnd, dNot, dIfE, dIxV, dFn, dFnB, gT, gsCons, gsNil, SVd_f, SVd_o, SVd_b, dAdd_i, dSub_i, dInt_i, dLt_i, dGt_i, dGe_i, dLe_i, dEq_i, dNe_i, dIx, e]
    refine ⟨z', k + r.length, rfl, i3, .inr ⟨_, rfl, by simpa using hm.1, by simpa using hm.2, fun d hd z2 hz2 => ?_⟩⟩
    obtain ⟨x, hx, rfl⟩ := List.mem_map.mp hd
    simp [startD, endP, outs, dRet, dRetV, dsThen, dM1, dThen, daThen, dC, dLc, dItems, dVar, dVarV, still, D.items, D.isTxt, wipeD, SVd_f, SVd_o, SVd_b, SVm_f, SVm_o, SVm_b, SVp_f, SVp_o, SVp_b, dOp, dIn_s, dNotin_s, dEq_s, dEq_i, dEq_b, dNe_s, dNe_i, T_len, T_inj, dTT, lcTurn, gN, nbor, onB_bl, nborL, backD, T_subIn, dCall, daCons, daNil, dTup, dLst, dSeq, dIf, dPass, dSet, dDrop, dAsg, dOr, dAnd, dNot, dIfE, dIxV, dFn, dFnB, gT, gsCons, gsNil, SVd_f, SVd_o, SVd_b, dAdd_i, dSub_i, dInt_i, dLt_i, dGt_i, dGe_i, dLe_i, dEq_i, dNe_i]
    exact k1 _ _ ⟨z2, row ++ [x], by simp, rfl, by simp; omega, fun j hj => i2 j (by simp [hj]), hz2⟩
  · obtain ⟨z', row, rfl, rfl, i1, i2, i3⟩ := hi
    exact hq z' row (by simpa using i1) i3
theorem use_of {f row : List Nat} {P : O → List D → Prop} (hf : f.length ≤ 6) (hr : row.length = f.length) (hp : ∀ a b : List Nat, (∀ c ∈ a, c ∈ f) → (∀ c ∈ b, c ∈ f) → a.length ≤ 6 → b.length ≤ 6 → P (.ok (.frz (cD [a, b]))) []) : S._law_of_signs [] [tD f, .lst (row.map nI)] P := ⟨f, row, rfl, rfl, hf, hr, hp⟩
theorem ok_two {a b : List Nat} (ha : tx a) (hb : tx b) : okC [a, b] := ⟨by simp, by intro x hx; simp at hx; rcases hx with rfl | rfl; exact ha; exact hb⟩
theorem tx_in {f a : List Nat} (hf : ∀ c ∈ f, c ∈ FL) (h : ∀ c ∈ a, c ∈ f) (l : a.length ≤ 6) : tx a := ⟨six_low fun c hc => hf c (h c hc), Nat.le_trans l (by decide)⟩
theorem p__law_thirds : ∀ cs ds P, S._law_thirds cs ds P → cs.length = 1 ∧ cs.length + ds.length = 3 ∧ r__law_thirds (startD N__law_thirds cs ds) (endP 1 P) := by
  rintro _ _ P ⟨z, k, f, rs, rfl, rfl, hz, hk, hr, hn, hp⟩
  refine ⟨rfl, rfl, ?_⟩
  have hl := fok_len hk
  have h6 := fok_six hk
  have hne := List.length_pos_iff.mpr (fok_ne hk)
  simp [r__law_thirds, N__law_thirds, startD, endP, outs, dRet, dRetV, dsThen, dM1, dThen, daThen, dC, dLc, dItems, dVar, dVarV, still, D.items, D.isTxt, wipeD, SVd_f, SVd_o, SVd_b, SVm_f, SVm_o, SVm_b, SVp_f, SVp_o, SVp_b, dOp, dIn_s, dNotin_s, dEq_s, dEq_i, dEq_b, dNe_s, dNe_i, T_len, T_inj, dTT, lcTurn, gN, nbor, onB_bl, nborL, backD, T_subIn, dCall, daCons, daNil, dTup, dLst, dSeq, dIf, dPass, dSet, dDrop, dAsg, dOr, dAnd, dNot, dIfE, dIxV, dFn, dFnB, gT, gsCons, gsNil, SVd_f, SVd_o, SVd_b, dAdd_i, dSub_i, dInt_i, dLt_i, dGt_i, dGe_i, dLe_i, dEq_i, dNe_i, daMap, kRng1, range_n, dLen]
  refine ⟨by unfold sizeLine; omega, by omega, ?_⟩
  refine th_lc (k := k + 9) hz hl hr hn fun z1 row hrow hz1 => ?_
  simp [startD, endP, outs, dRet, dRetV, dsThen, dM1, dThen, daThen, dC, dLc, dItems, dVar, dVarV, still, D.items, D.isTxt, wipeD, SVd_f, SVd_o, SVd_b, SVm_f, SVm_o, SVm_b, SVp_f, SVp_o, SVp_b, dOp, dIn_s, dNotin_s, dEq_s, dEq_i, dEq_b, dNe_s, dNe_i, T_len, T_inj, dTT, lcTurn, gN, nbor, onB_bl, nborL, backD, T_subIn, dCall, daCons, daNil, dTup, dLst, dSeq, dIf, dPass, dSet, dDrop, dAsg, dOr, dAnd, dNot, dIfE, dIxV, dFn, dFnB, gT, gsCons, gsNil, SVd_f, SVd_o, SVd_b, dAdd_i, dSub_i, dInt_i, dLt_i, dGt_i, dGe_i, dLe_i, dEq_i, dNe_i, dFnS, dNames, slotD]
  refine use_of hl hrow fun a b ha hb la lb => ?_
  simp [startD, endP, outs, dRet, dRetV, dsThen, dM1, dThen, daThen, dC, dLc, dItems, dVar, dVarV, still, D.items, D.isTxt, wipeD, SVd_f, SVd_o, SVd_b, SVm_f, SVm_o, SVm_b, SVp_f, SVp_o, SVp_b, dOp, dIn_s, dNotin_s, dEq_s, dEq_i, dEq_b, dNe_s, dNe_i, T_len, T_inj, dTT, lcTurn, gN, nbor, onB_bl, nborL, backD, T_subIn, dCall, daCons, daNil, dTup, dLst, dSeq, dIf, dPass, dSet, dDrop, dAsg, dOr, dAnd, dNot, dIfE, dIxV, dFn, dFnB, gT, gsCons, gsNil, SVd_f, SVd_o, SVd_b, dAdd_i, dSub_i, dInt_i, dLt_i, dGt_i, dGe_i, dLe_i, dEq_i, dNe_i, dLen, D.flat, flatL]
  refine ⟨by decide, by unfold sizeLine; omega, ?_⟩
  refine use_take (m := f.length) (k := k + 8) hz1 (by omega) fun z2 q hz2 hq => ?_
  have hq : q < row.length := by omega
  have eq : atI (row.map nI) (q : Int) = some (nI row[q]) := by
    rw [atI_nat (by simpa using hq)]
    simp
  simp [startD, endP, outs, dRet, dRetV, dsThen, dM1, dThen, daThen, dC, dLc, dItems, dVar, dVarV, still, D.items, D.isTxt, wipeD, SVd_f, SVd_o, SVd_b, SVm_f, SVm_o, SVm_b, SVp_f, SVp_o, SVp_b, dOp, dIn_s, dNotin_s, dEq_s, dEq_i, dEq_b, dNe_s, dNe_i, T_len, T_inj, dTT, lcTurn, gN, nbor, onB_bl, nborL, backD, T_subIn, dCall, daCons, daNil, dTup, dLst, dSeq, dIf, dPass, dSet, dDrop, dAsg, dOr, dAnd, dNot, dIfE, dIxV, dFn, dFnB, gT, gsCons, gsNil, SVd_f, SVd_o, SVd_b, dAdd_i, dSub_i, dInt_i, dLt_i, dGt_i, dGe_i, dLe_i, dEq_i, dNe_i, dLPutV, dIx, eq]
  refine use_taken (m := 2) (k := k + 7) hz2 rfl (by decide) fun z3 u hz3 hu => ?_
  simp [startD, endP, outs, dRet, dRetV, dsThen, dM1, dThen, daThen, dC, dLc, dItems, dVar, dVarV, still, D.items, D.isTxt, wipeD, SVd_f, SVd_o, SVd_b, SVm_f, SVm_o, SVm_b, SVp_f, SVp_o, SVp_b, dOp, dIn_s, dNotin_s, dEq_s, dEq_i, dEq_b, dNe_s, dNe_i, T_len, T_inj, dTT, lcTurn, gN, nbor, onB_bl, nborL, backD, T_subIn, dCall, daCons, daNil, dTup, dLst, dSeq, dIf, dPass, dSet, dDrop, dAsg, dOr, dAnd, dNot, dIfE, dIxV, dFn, dFnB, gT, gsCons, gsNil, SVd_f, SVd_o, SVd_b, dAdd_i, dSub_i, dInt_i, dLt_i, dGt_i, dGe_i, dLe_i, dEq_i, dNe_i]
  refine dMod_i (by decide) ?_
  refine ⟨q, by simp [ixN]; omega, ?_⟩
  obtain ⟨v, ev, _⟩ := emod_nat (a := (row[q] : Int) + 1 + u) (m := 3) (by omega)
  have ev : ((row[q] : Int) + 1 + u) % 3 = v := ev
  rw [SVd_f, ev, show (row.map nI).set q (D.int v) = (row.set q v).map nI from (List.map_set (f := nI) (l := row) (i := q) (a := v)).symm]
  refine use_of hl (by simpa using hrow) fun a' b' ha' hb' la' lb' => ?_
  simp [D.flat, flatL]
  refine use_case (k := k) hz3 hk fun z4 c d g hz4 => ?_
  obtain ⟨tc, td⟩ := good_tx hk g
  simp [dAdd]
  refine ⟨by decide, by decide, ?_⟩
  exact hp z4 [[a, b], [a', b'], [c, d]] rfl (by
    intro l hl'
    simp only [List.mem_cons, List.not_mem_nil, or_false] at hl'
    rcases hl' with rfl | rfl | rfl
    · exact ok_two (tx_in h6 ha la) (tx_in h6 hb lb)
    · exact ok_two (tx_in h6 ha' la') (tx_in h6 hb' lb')
    · exact ok_two tc td) hz4
end K01

set_option Elab.async false
set_option linter.all false
set_option maxRecDepth 100000
set_option maxHeartbeats 4000000
namespace K01
open PySem PySem.Spec L2 Ow
set_option autoImplicit false
abbrev Rd := List Nat × Cs × Cs × Cs
abbrev rD (r : Rd) : D := .tup [tD r.1, cD r.2.1, cD r.2.2.1, cD r.2.2.2]
abbrev okR (r : Rd) : Prop := tx r.1 ∧ okC r.2.1 ∧ okC r.2.2.1 ∧ okC r.2.2.2
namespace S
def _law_world_drawn : DSp := fun cs ds P => ∃ (z : Sto) (k : Nat), cs = [z.d] ∧ ds = [] ∧ z.ok (k + 400) ∧ ∀ (z' : Sto) (f a b c d : List Nat) (T3 : List Cs) (R : List Rd), fok f = true → goodC f [a, b] = true → goodC f [c, d] = true → T3.length = 3 → (∀ l ∈ T3, okC l) → R.length ≤ 3 → (∀ r ∈ R, okR r) → z'.ok k →
  P (.ok (.frz (.tup [tD f, cD [a, b], cD [c, d], .lst (T3.map cD), .lst (R.map rD)]))) [z'.d]
end S
def r__law_world_drawn : DS := (dSeq (dSet 1 (dFnB S._law_fields 0 (daCons (dC (.int 1)) (daCons (dC (.int 6)) daNil)))) (dSeq (dSet 2 (dFnB S._law_case 0 (daCons (dVar 1) daNil))) (dSeq (dSet 3 (dFnB S._law_case 0 (daCons (dVar 1) daNil))) (dSeq (dSet 4 (dFnB S._law_take 0 (daCons (dC (.int 8)) daNil))) (dSeq (dIf (dOp dLtD (dVar 4) (dC (.int 3))) (dSet 3 (dTup (daCons (dIxV 2 dIx (dC (.int 1))) (daCons (dIxV 2 dIx (dC (.int 0))) daNil)))) dPass) (dSeq (dIf (dOp dEq (dVar 4) (dC (.int 3))) (dSeq (dSet 2 (dTup (daCons (dVar 1) (daCons (dC (.str "")) daNil)))) (dSet 3 (dTup (daCons (dC (.str "")) (daCons (dVar 1) daNil))))) dPass) (dSeq (dSet 5 (dFnB S._law_thirds 0 (daCons (dVar 1) (daCons (dFn S._law_signs (daCons (dVar 1) (daCons (dVar 2) (daCons (dVar 3) daNil)))) daNil)))) (dSeq (dSet 6 (dLst daNil)) (dSeq (dFor (daMap (daCons (dC (.int 3)) daNil) kRng1) (gN 7) (dSeq (dSet 8 (dLc (daMap (daCons (dC (.int 3)) daNil) kRng1) [9] (gN 9) none (dFnB S._law_any_case 0 (daCons (dVar 1) daNil)))) (dSeq (dSet 10 (dVar 1)) (dSeq (dIf (dOr (dOp dEq (dVar 7) (dC (.int 0))) (dOp dEq (dFnB S._law_take 0 (daCons (dC (.int 8)) daNil)) (dC (.int 0)))) (dSet 10 (dFnB S._law_bad_fields 0 daNil)) dPass) (dDrop (dMut 6 xAppend (daCons (dTup (daCons (dVar 10) (daCons (dIxV 8 dIx (dC (.int 0))) (daCons (dIxV 8 dIx (dC (.int 1))) (daCons (dIxV 8 dIx (dC (.int 2))) daNil))))) daNil))))))) (dRet (dTup (daCons (dVar 1) (daCons (dVar 2) (daCons (dVar 3) (daCons (dVar 5) (daCons (dVar 6) daNil))))))))))))))))
def N__law_world_drawn : List Str := ["store", "fields", "one", "two", "kind", "thirds", "rounds", "at", "cases", "place", "bad"]
abbrev wdE (z : Sto) (f : List Nat) (c1 c2 : Cs) (d4 : D) (T3 : List Cs) (R : List Rd) (o7 : Option D) (o8 : Option (List Cs)) (o10 : Option D) : Ow.Env :=
  [some (.bor z.d), some (.frz (tD f)), some (.frz (cD c1)), some (.frz (cD c2)), some (.frz d4), some (.own (.lst (T3.map cD))), some (.own (.lst (R.map rD))), o7.map SV.frz, o8.map fun L => .own (.lst (L.map cD)), none, o10.map SV.frz]
def wdA : DS := (dDrop (dMut 6 xAppend (daCons (dTup (daCons (dVar 10) (daCons (dIxV 8 dIx (dC (.int 0))) (daCons (dIxV 8 dIx (dC (.int 1))) (daCons (dIxV 8 dIx (dC (.int 2))) daNil))))) daNil)))
def wdB : DS := (dSeq (dSet 8 (dLc (daMap (daCons (dC (.int 3)) daNil) kRng1) [9] (gN 9) none (dFnB S._law_any_case 0 (daCons (dVar 1) daNil)))) (dSeq (dSet 10 (dVar 1)) (dSeq (dIf (dOr (dOp dEq (dVar 7) (dC (.int 0))) (dOp dEq (dFnB S._law_take 0 (daCons (dC (.int 8)) daNil)) (dC (.int 0)))) (dSet 10 (dFnB S._law_bad_fields 0 daNil)) dPass) wdA)))
theorem wd_a {z : Sto} {f : List Nat} {c1 c2 : Cs} {d4 : D} {T3 : List Cs} {R : List Rd} {n : Nat} {x y w : Cs} {t : List Nat} {K : SO → Ow.Env → Prop} (hR : R.length ≤ 10)
    (hk : K .nx (wdE z f c1 c2 d4 T3 (R ++ [(t, x, y, w)]) (some (nI n)) (some [x, y, w]) (some (tD t)))) : wdA (wdE z f c1 c2 d4 T3 R (some (nI n)) (some [x, y, w]) (some (tD t))) K := by
  simp [wdA, wdE, startD, endP, outs, dRet, dRetV, dsThen, dM1, dThen, daThen, dC, dLc, dItems, dVar, dVarV, still, D.items, D.isTxt, wipeD, SVd_f, SVd_o, SVd_b, SVm_f, SVm_o, SVm_b, SVp_f, SVp_o, SVp_b, dOp, dIn_s, dNotin_s, dEq_s, dEq_i, dEq_b, dNe_s, dNe_i, T_len, T_inj, dTT, lcTurn, gN, nbor, onB_bl, nborL, backD, T_subIn, dCall, daCons, daNil, dTup, dLst, dSeq, dIf, dPass, dSet, dDrop, dAsg, dOr, dAnd, dNot, dIfE, dIxV, dFn, dFnB, gT, gsCons, gsNil, SVd_f, SVd_o, SVd_b, dAdd_i, dSub_i, dInt_i, dLt_i, dGt_i, dGe_i, dLe_i, dEq_i, dNe_i, dMut, dIx, atI, ixN, xAppend]
  refine ⟨by decide, by unfold sizeLine; omega, ?_⟩
  simpa [wdE] using hk
theorem wd_lc {z : Sto} {k : Nat} {f : List Nat} {c1 c2 : Cs} {d4 : D} {T3 : List Cs} {R : List Rd} {o7 o8 o10 : Option SV} {Q : O → Ow.Env → Prop} (hz : z.ok (k + 57)) (hk : fok f = true)
    (hq : ∀ (z' : Sto) (x y w : Cs), okC x → okC y → okC w → z'.ok k → Q (.ok (.own (.lst ([x, y, w].map cD)))) [some (.bor z'.d), some (.frz (tD f)), some (.frz (cD c1)), some (.frz (cD c2)), some (.frz d4), some (.own (.lst (T3.map cD))), some (.own (.lst (R.map rD))), o7, o8, none, o10]) :
    dLcGo [9] (gN 9) none (dFnB S._law_any_case 0 (daCons (dVar 1) daNil)) ((List.range 3).map nI) [] [some (.bor z.d), some (.frz (tD f)), some (.frz (cD c1)), some (.frz (cD c2)), some (.frz d4), some (.own (.lst (T3.map cD))), some (.own (.lst (R.map rD))), o7, o8, none, o10] Q := by
  refine lcInv (fun r acc ρ => ∃ (z' : Sto) (L : List Cs), acc = L.map cD ∧ ρ = [some (.bor z'.d), some (.frz (tD f)), some (.frz (cD c1)), some (.frz (cD c2)), some (.frz d4), some (.own (.lst (T3.map cD))), some (.own (.lst (R.map rD))), o7, o8, none, o10] ∧ L.length + r.length = 3 ∧ (∀ l ∈ L, okC l) ∧ z'.ok (k + 19 * r.length))
    (fun i r acc ρ hi K k1 k2 => ?_) (List.range 3) [] _ ⟨z, [], rfl, rfl, by simp, by simp, hz.le (by simp)⟩ (by unfold sizeLine; simp) (fun acc ρ hi => ?_)
  · obtain ⟨z', L, rfl, rfl, i1, i2, i3⟩ := hi
    simp only [List.length_cons] at i1 i3
    simp [startD, endP, outs, dRet, dRetV, dsThen, dM1, dThen, daThen, dC, dLc, dItems, dVar, dVarV, still, D.items, D.isTxt, wipeD, SVd_f, SVd_o, SVd_b, SVm_f, SVm_o, SVm_b, SVp_f, SVp_o, SVp_b, dOp, dIn_s, dNotin_s, dEq_s, dEq_i, dEq_b, dNe_s, dNe_i, T_len, T_inj, dTT, lcTurn, gN, nbor, onB_bl, nborL, backD, T_subIn, dCall, daCons, daNil, dTup, dLst, dSeq, dIf, dPass, dSet, dDrop, dAsg, dOr, dAnd, dNot, dIfE, dIxV, dFn, dFnB, gT, gsCons, gsNil, SVd_f, SVd_o, SVd_b, dAdd_i, dSub_i, dInt_i, dLt_i, dGt_i, dGe_i, dLe_i, dEq_i, dNe_i]
    refine ⟨z', k + 19 * r.length, f, rfl, rfl, i3.le (by omega), hk, fun z2 l hl hz2 => ?_⟩
    simp [startD, endP, outs, dRet, dRetV, dsThen, dM1, dThen, daThen, dC, dLc, dItems, dVar, dVarV, still, D.items, D.isTxt, wipeD, SVd_f, SVd_o, SVd_b, SVm_f, SVm_o, SVm_b, SVp_f, SVp_o, SVp_b, dOp, dIn_s, dNotin_s, dEq_s, dEq_i, dEq_b, dNe_s, dNe_i, T_len, T_inj, dTT, lcTurn, gN, nbor, onB_bl, nborL, backD, T_subIn, dCall, daCons, daNil, dTup, dLst, dSeq, dIf, dPass, dSet, dDrop, dAsg, dOr, dAnd, dNot, dIfE, dIxV, dFn, dFnB, gT, gsCons, gsNil, SVd_f, SVd_o, SVd_b, dAdd_i, dSub_i, dInt_i, dLt_i, dGt_i, dGe_i, dLe_i, dEq_i, dNe_i]
    exact k1 _ _ ⟨z2, L ++ [l], by simp, rfl, by simp; omega, fun j hj => (List.mem_append.mp hj).elim (i2 j) (fun h => by simp at h; subst h; exact hl), hz2⟩
  · obtain ⟨z', L, rfl, rfl, i1, i2, i3⟩ := hi
    match L, i1, i2 with
    | [x, y, w], _, i2 => exact hq z' x y w (i2 x (by simp)) (i2 y (by simp)) (i2 w (by simp)) i3
    | [], i1, _ => simp at i1
    | [_], i1, _ => simp at i1
    | [_, _], i1, _ => simp at i1
    | _ :: _ :: _ :: _ :: _, i1, _ => simp at i1
theorem wd_b {z : Sto} {k : Nat} {f : List Nat} {c1 c2 : Cs} {d4 : D} {T3 : List Cs} {R : List Rd} {n : Nat} {o8 : Option (List Cs)} {o10 : Option D} {K : SO → Ow.Env → Prop} (hz : z.ok (k + 69)) (hk : fok f = true) (hR : R.length ≤ 10)
    (hn : ∀ (z' : Sto) (r : Rd) (o8 : Option (List Cs)) (o10 : Option D), okR r → z'.ok k → K .nx (wdE z' f c1 c2 d4 T3 (R ++ [r]) (some (nI n)) o8 o10)) : wdB (wdE z f c1 c2 d4 T3 R (some (nI n)) o8 o10) K := by
  cases o8 <;> cases o10 <;> (
    simp [wdB, wdE, startD, endP, outs, dRet, dRetV, dsThen, dM1, dThen, daThen, dC, dLc, dItems, dVar, dVarV, still, D.items, D.isTxt, wipeD, SVd_f, SVd_o, SVd_b, SVm_f, SVm_o, SVm_b, SVp_f, SVp_o, SVp_b, dOp, dIn_s, dNotin_s, dEq_s, dEq_i, dEq_b, dNe_s, dNe_i, T_len, T_inj, dTT, lcTurn, gN, nbor, onB_bl, nborL, backD, T_subIn, dCall, daCons, daNil, dTup, dLst, dSeq, dIf, dPass, dSet, dDrop, dAsg, dOr, dAnd, dNot, dIfE, dIxV, dFn, dFnB, gT, gsCons, gsNil, SVd_f, SVd_o, SVd_b, dAdd_i, dSub_i, dInt_i, dLt_i, dGt_i, dGe_i, dLe_i, dEq_i, dNe_i, daMap, kRng1, range_n]
    refine wd_lc (k := k + 12) hz hk fun z1 x y w hx hy hw hz1 => ?_
    have fin : ∀ (z2 : Sto) (t : List Nat), tx t → z2.ok k → wdA (wdE z2 f c1 c2 d4 T3 R (some (nI n)) (some [x, y, w]) (some (tD t))) K := fun z2 t ht hz2 => wd_a hR (hn z2 (t, x, y, w) (some [x, y, w]) (some (tD t)) ⟨ht, hx, hy, hw⟩ hz2)
    have tf : tx f := ⟨six_low (fok_six hk), Nat.le_trans (fok_len hk) (by decide)⟩
    simp [startD, endP, outs, dRet, dRetV, dsThen, dM1, dThen, daThen, dC, dLc, dItems, dVar, dVarV, still, D.items, D.isTxt, wipeD, SVd_f, SVd_o, SVd_b, SVm_f, SVm_o, SVm_b, SVp_f, SVp_o, SVp_b, dOp, dIn_s, dNotin_s, dEq_s, dEq_i, dEq_b, dNe_s, dNe_i, T_len, T_inj, dTT, lcTurn, gN, nbor, onB_bl, nborL, backD, T_subIn, dCall, daCons, daNil, dTup, dLst, dSeq, dIf, dPass, dSet, dDrop, dAsg, dOr, dAnd, dNot, dIfE, dIxV, dFn, dFnB, gT, gsCons, gsNil, SVd_f, SVd_o, SVd_b, dAdd_i, dSub_i, dInt_i, dLt_i, dGt_i, dGe_i, dLe_i, dEq_i, dNe_i]
    refine ifP (fun h0 => ?_) (fun h0 => ?_)
    · refine ⟨z1, k, rfl, rfl, hz1.le (by omega), fun z2 t ht hz2 => ?_⟩
      simp [startD, endP, outs, dRet, dRetV, dsThen, dM1, dThen, daThen, dC, dLc, dItems, dVar, dVarV, still, D.items, D.isTxt, wipeD, SVd_f, SVd_o, SVd_b, SVm_f, SVm_o, SVm_b, SVp_f, SVp_o, SVp_b, dOp, dIn_s, dNotin_s, dEq_s, dEq_i, dEq_b, dNe_s, dNe_i, T_len, T_inj, dTT, lcTurn, gN, nbor, onB_bl, nborL, backD, T_subIn, dCall, daCons, daNil, dTup, dLst, dSeq, dIf, dPass, dSet, dDrop, dAsg, dOr, dAnd, dNot, dIfE, dIxV, dFn, dFnB, gT, gsCons, gsNil, SVd_f, SVd_o, SVd_b, dAdd_i, dSub_i, dInt_i, dLt_i, dGt_i, dGe_i, dLe_i, dEq_i, dNe_i]
      simpa [wdE] using fin z2 t ht hz2
    · refine use_taken (m := 8) (k := k + 11) hz1 rfl (by decide) fun z2 q hz2 hq => ?_
      simp [startD, endP, outs, dRet, dRetV, dsThen, dM1, dThen, daThen, dC, dLc, dItems, dVar, dVarV, still, D.items, D.isTxt, wipeD, SVd_f, SVd_o, SVd_b, SVm_f, SVm_o, SVm_b, SVp_f, SVp_o, SVp_b, dOp, dIn_s, dNotin_s, dEq_s, dEq_i, dEq_b, dNe_s, dNe_i, T_len, T_inj, dTT, lcTurn, gN, nbor, onB_bl, nborL, backD, T_subIn, dCall, daCons, daNil, dTup, dLst, dSeq, dIf, dPass, dSet, dDrop, dAsg, dOr, dAnd, dNot, dIfE, dIxV, dFn, dFnB, gT, gsCons, gsNil, SVd_f, SVd_o, SVd_b, dAdd_i, dSub_i, dInt_i, dLt_i, dGt_i, dGe_i, dLe_i, dEq_i, dNe_i]
      refine ifP (fun h1 => ?_) (fun h1 => ?_)
      · refine ⟨z2, k, rfl, rfl, hz2, fun z3 t ht hz3 => ?_⟩
        simp [startD, endP, outs, dRet, dRetV, dsThen, dM1, dThen, daThen, dC, dLc, dItems, dVar, dVarV, still, D.items, D.isTxt, wipeD, SVd_f, SVd_o, SVd_b, SVm_f, SVm_o, SVm_b, SVp_f, SVp_o, SVp_b, dOp, dIn_s, dNotin_s, dEq_s, dEq_i, dEq_b, dNe_s, dNe_i, T_len, T_inj, dTT, lcTurn, gN, nbor, onB_bl, nborL, backD, T_subIn, dCall, daCons, daNil, dTup, dLst, dSeq, dIf, dPass, dSet, dDrop, dAsg, dOr, dAnd, dNot, dIfE, dIxV, dFn, dFnB, gT, gsCons, gsNil, SVd_f, SVd_o, SVd_b, dAdd_i, dSub_i, dInt_i, dLt_i, dGt_i, dGe_i, dLe_i, dEq_i, dNe_i]
        simpa [wdE] using fin z3 t ht hz3
      · simpa [wdE] using fin z2 f tf (hz2.le (by omega)))
theorem sgns_row {f a b c d r : List Nat} (h : r ∈ sgns f a b c d) : r ≠ [] ∧ r.length ≤ 1000 := by
  obtain ⟨x, _, rfl⟩ := List.mem_map.mp h
  have e := shown_len (sgnN a b x) (sgn_lt _ _ _) (sgnN c d x) (sgn_lt _ _ _)
  refine ⟨fun z => ?_, ?_⟩
  · rw [z] at e
    split at e <;> simp at e
  · rw [e]
    split <;> decide
def wdZ : DS := (dSeq (dSet 5 (dFnB S._law_thirds 0 (daCons (dVar 1) (daCons (dFn S._law_signs (daCons (dVar 1) (daCons (dVar 2) (daCons (dVar 3) daNil)))) daNil)))) (dSeq (dSet 6 (dLst daNil)) (dSeq (dFor (daMap (daCons (dC (.int 3)) daNil) kRng1) (gN 7) wdB) (dRet (dTup (daCons (dVar 1) (daCons (dVar 2) (daCons (dVar 3) (daCons (dVar 5) (daCons (dVar 6) daNil))))))))))
theorem wd_end {z : Sto} {k : Nat} {f a b c d : List Nat} {d4 : D} {P : O → List D → Prop} (hz : z.ok (k + 222)) (hk : fok f = true) (g1 : goodC f [a, b] = true) (g2 : goodC f [c, d] = true)
    (hp : ∀ (z' : Sto) (T3 : List Cs) (R : List Rd), T3.length = 3 → (∀ l ∈ T3, okC l) → R.length ≤ 3 → (∀ r ∈ R, okR r) → z'.ok k → P (.ok (.frz (.tup [tD f, cD [a, b], cD [c, d], .lst (T3.map cD), .lst (R.map rD)]))) [z'.d]) :
    wdZ [some (.bor z.d), some (.frz (tD f)), some (.frz (cD [a, b])), some (.frz (cD [c, d])), some (.frz d4), none, none, none, none, none, none] (endP 1 P) := by
  have hl := fok_len hk
  simp [wdZ, startD, endP, outs, dRet, dRetV, dsThen, dM1, dThen, daThen, dC, dLc, dItems, dVar, dVarV, still, D.items, D.isTxt, wipeD, SVd_f, SVd_o, SVd_b, SVm_f, SVm_o, SVm_b, SVp_f, SVp_o, SVp_b, dOp, dIn_s, dNotin_s, dEq_s, dEq_i, dEq_b, dNe_s, dNe_i, T_len, T_inj, dTT, lcTurn, gN, nbor, onB_bl, nborL, backD, T_subIn, dCall, daCons, daNil, dTup, dLst, dSeq, dIf, dPass, dSet, dDrop, dAsg, dOr, dAnd, dNot, dIfE, dIxV, dFn, dFnB, gT, gsCons, gsNil, SVd_f, SVd_o, SVd_b, dAdd_i, dSub_i, dInt_i, dLt_i, dGt_i, dGe_i, dLe_i, dEq_i, dNe_i, S._law_signs, dFor, daMap, kRng1, range_n]
  refine ⟨f, a, b, c, d, ⟨rfl, ⟨rfl, rfl⟩, ⟨rfl, rfl⟩⟩, by omega, ?_⟩
  refine ⟨z, k + 207, f, sgns f a b c d, rfl, rfl, hz, hk, by simp [sgns], fun r hr => sgns_row hr, fun z1 T3 h3 ok3 hz1 => ?_⟩
  simp [startD, endP, outs, dRet, dRetV, dsThen, dM1, dThen, daThen, dC, dLc, dItems, dVar, dVarV, still, D.items, D.isTxt, wipeD, SVd_f, SVd_o, SVd_b, SVm_f, SVm_o, SVm_b, SVp_f, SVp_o, SVp_b, dOp, dIn_s, dNotin_s, dEq_s, dEq_i, dEq_b, dNe_s, dNe_i, T_len, T_inj, dTT, lcTurn, gN, nbor, onB_bl, nborL, backD, T_subIn, dCall, daCons, daNil, dTup, dLst, dSeq, dIf, dPass, dSet, dDrop, dAsg, dOr, dAnd, dNot, dIfE, dIxV, dFn, dFnB, gT, gsCons, gsNil, SVd_f, SVd_o, SVd_b, dAdd_i, dSub_i, dInt_i, dLt_i, dGt_i, dGe_i, dLe_i, dEq_i, dNe_i]
  refine forInv (fun r ρ => ∃ (z' : Sto) (R : List Rd) (o7 : Option D) (o8 : Option (List Cs)) (o10 : Option D), ρ = wdE z' f [a, b] [c, d] d4 T3 R o7 o8 o10 ∧ R.length + r.length = 3 ∧ (∀ r ∈ R, okR r) ∧ z'.ok (k + 69 * r.length)) (fun n r ρ hi K hk' hr => ?_) (List.range 3) _ ⟨z1, [], none, none, none, rfl, by simp, by simp, hz1⟩ (fun ρ hi => ?_)
  · obtain ⟨z', R, o7, o8, o10, rfl, i1, i2, i3⟩ := hi
    simp only [List.length_cons] at i1 i3
    simp only [gN, wdE]
    refine ⟨by cases o7 <;> simp [nbor], ?_⟩
    refine wd_b (k := k + 69 * r.length) (i3.le (by omega)) hk (by omega) fun z2 x o8 o10 hx hz2 => ?_
    exact hk' _ ⟨z2, R ++ [x], _, o8, o10, rfl, by simp; omega, fun y hy => (List.mem_append.mp hy).elim (i2 y) (fun h => by simp at h; subst h; exact hx), hz2⟩
  · obtain ⟨z', R, o7, o8, o10, rfl, i1, i2, i3⟩ := hi
    simp [startD, endP, outs, dRet, dRetV, dsThen, dM1, dThen, daThen, dC, dLc, dItems, dVar, dVarV, still, D.items, D.isTxt, wipeD, SVd_f, SVd_o, SVd_b, SVm_f, SVm_o, SVm_b, SVp_f, SVp_o, SVp_b, dOp, dIn_s, dNotin_s, dEq_s, dEq_i, dEq_b, dNe_s, dNe_i, T_len, T_inj, dTT, lcTurn, gN, nbor, onB_bl, nborL, backD, T_subIn, dCall, daCons, daNil, dTup, dLst, dSeq, dIf, dPass, dSet, dDrop, dAsg, dOr, dAnd, dNot, dIfE, dIxV, dFn, dFnB, gT, gsCons, gsNil, SVd_f, SVd_o, SVd_b, dAdd_i, dSub_i, dInt_i, dLt_i, dGt_i, dGe_i, dLe_i, dEq_i, dNe_i]
    exact ⟨by decide, hp z' T3 R h3 ok3 (by simp at i1; omega) i2 i3⟩
theorem good_turn {f a b : List Nat} (hk : fok f = true) (g : goodC f [a, b] = true) : goodC f [b, a] = true := by
  have hf := fok_asc hk
  obtain ⟨h1, h2, h3⟩ := (good_iff hf).mp g
  exact (good_iff hf).mpr ⟨h2, h1, fun x hx hy => h3 x hy hx⟩
theorem p__law_world_drawn : ∀ cs ds P, S._law_world_drawn cs ds P → cs.length = 1 ∧ cs.length + ds.length = 1 ∧ r__law_world_drawn (startD N__law_world_drawn cs ds) (endP 1 P) := by
  rintro _ _ P ⟨z, k, rfl, rfl, hz, hp⟩
  refine ⟨rfl, rfl, ?_⟩
  rw [show r__law_world_drawn = (dSeq (dSet 1 (dFnB S._law_fields 0 (daCons (dC (.int 1)) (daCons (dC (.int 6)) daNil)))) (dSeq (dSet 2 (dFnB S._law_case 0 (daCons (dVar 1) daNil))) (dSeq (dSet 3 (dFnB S._law_case 0 (daCons (dVar 1) daNil))) (dSeq (dSet 4 (dFnB S._law_take 0 (daCons (dC (.int 8)) daNil))) (dSeq (dIf (dOp dLtD (dVar 4) (dC (.int 3))) (dSet 3 (dTup (daCons (dIxV 2 dIx (dC (.int 1))) (daCons (dIxV 2 dIx (dC (.int 0))) daNil)))) dPass) (dSeq (dIf (dOp dEq (dVar 4) (dC (.int 3))) (dSeq (dSet 2 (dTup (daCons (dVar 1) (daCons (dC (.str "")) daNil)))) (dSet 3 (dTup (daCons (dC (.str "")) (daCons (dVar 1) daNil))))) dPass) wdZ)))))) from rfl]
  simp [N__law_world_drawn, startD, endP, outs, dRet, dRetV, dsThen, dM1, dThen, daThen, dC, dLc, dItems, dVar, dVarV, still, D.items, D.isTxt, wipeD, SVd_f, SVd_o, SVd_b, SVm_f, SVm_o, SVm_b, SVp_f, SVp_o, SVp_b, dOp, dIn_s, dNotin_s, dEq_s, dEq_i, dEq_b, dNe_s, dNe_i, T_len, T_inj, dTT, lcTurn, gN, nbor, onB_bl, nborL, backD, T_subIn, dCall, daCons, daNil, dTup, dLst, dSeq, dIf, dPass, dSet, dDrop, dAsg, dOr, dAnd, dNot, dIfE, dIxV, dFn, dFnB, gT, gsCons, gsNil, SVd_f, SVd_o, SVd_b, dAdd_i, dSub_i, dInt_i, dLt_i, dGt_i, dGe_i, dLe_i, dEq_i, dNe_i]
  refine ⟨z, k + 391, rfl, rfl, hz, fun z1 f hk hz1 => ?_⟩
  have hf := fok_asc hk
  simp [startD, endP, outs, dRet, dRetV, dsThen, dM1, dThen, daThen, dC, dLc, dItems, dVar, dVarV, still, D.items, D.isTxt, wipeD, SVd_f, SVd_o, SVd_b, SVm_f, SVm_o, SVm_b, SVp_f, SVp_o, SVp_b, dOp, dIn_s, dNotin_s, dEq_s, dEq_i, dEq_b, dNe_s, dNe_i, T_len, T_inj, dTT, lcTurn, gN, nbor, onB_bl, nborL, backD, T_subIn, dCall, daCons, daNil, dTup, dLst, dSeq, dIf, dPass, dSet, dDrop, dAsg, dOr, dAnd, dNot, dIfE, dIxV, dFn, dFnB, gT, gsCons, gsNil, SVd_f, SVd_o, SVd_b, dAdd_i, dSub_i, dInt_i, dLt_i, dGt_i, dGe_i, dLe_i, dEq_i, dNe_i]
  refine use_case (k := k + 384) hz1 hk fun z2 a b g1 hz2 => ?_
  simp [startD, endP, outs, dRet, dRetV, dsThen, dM1, dThen, daThen, dC, dLc, dItems, dVar, dVarV, still, D.items, D.isTxt, wipeD, SVd_f, SVd_o, SVd_b, SVm_f, SVm_o, SVm_b, SVp_f, SVp_o, SVp_b, dOp, dIn_s, dNotin_s, dEq_s, dEq_i, dEq_b, dNe_s, dNe_i, T_len, T_inj, dTT, lcTurn, gN, nbor, onB_bl, nborL, backD, T_subIn, dCall, daCons, daNil, dTup, dLst, dSeq, dIf, dPass, dSet, dDrop, dAsg, dOr, dAnd, dNot, dIfE, dIxV, dFn, dFnB, gT, gsCons, gsNil, SVd_f, SVd_o, SVd_b, dAdd_i, dSub_i, dInt_i, dLt_i, dGt_i, dGe_i, dLe_i, dEq_i, dNe_i]
  refine use_case (k := k + 377) hz2 hk fun z3 c d g2 hz3 => ?_
  simp [startD, endP, outs, dRet, dRetV, dsThen, dM1, dThen, daThen, dC, dLc, dItems, dVar, dVarV, still, D.items, D.isTxt, wipeD, SVd_f, SVd_o, SVd_b, SVm_f, SVm_o, SVm_b, SVp_f, SVp_o, SVp_b, dOp, dIn_s, dNotin_s, dEq_s, dEq_i, dEq_b, dNe_s, dNe_i, T_len, T_inj, dTT, lcTurn, gN, nbor, onB_bl, nborL, backD, T_subIn, dCall, daCons, daNil, dTup, dLst, dSeq, dIf, dPass, dSet, dDrop, dAsg, dOr, dAnd, dNot, dIfE, dIxV, dFn, dFnB, gT, gsCons, gsNil, SVd_f, SVd_o, SVd_b, dAdd_i, dSub_i, dInt_i, dLt_i, dGt_i, dGe_i, dLe_i, dEq_i, dNe_i]
  refine use_taken (m := 8) (k := k + 376) hz3 rfl (by decide) fun z4 q hz4 hq => ?_
  have s2 : 2 ≤ sizeLine := by decide
  have hz5 := hz4.le (show k + 222 ≤ k + 376 by omega)
  simp [startD, endP, outs, dRet, dRetV, dsThen, dM1, dThen, daThen, dC, dLc, dItems, dVar, dVarV, still, D.items, D.isTxt, wipeD, SVd_f, SVd_o, SVd_b, SVm_f, SVm_o, SVm_b, SVp_f, SVp_o, SVp_b, dOp, dIn_s, dNotin_s, dEq_s, dEq_i, dEq_b, dNe_s, dNe_i, T_len, T_inj, dTT, lcTurn, gN, nbor, onB_bl, nborL, backD, T_subIn, dCall, daCons, daNil, dTup, dLst, dSeq, dIf, dPass, dSet, dDrop, dAsg, dOr, dAnd, dNot, dIfE, dIxV, dFn, dFnB, gT, gsCons, gsNil, SVd_f, SVd_o, SVd_b, dAdd_i, dSub_i, dInt_i, dLt_i, dGt_i, dGe_i, dLe_i, dEq_i, dNe_i]
  refine ifP (fun h => ?_) (fun h => ?_)
  · have hq3 : ¬ ((q : Int) = 3) := by omega
    have hq4 : ¬ (q = 3) := by omega
    simp [startD, endP, outs, dRet, dRetV, dsThen, dM1, dThen, daThen, dC, dLc, dItems, dVar, dVarV, still, D.items, D.isTxt, wipeD, SVd_f, SVd_o, SVd_b, SVm_f, SVm_o, SVm_b, SVp_f, SVp_o, SVp_b, dOp, dIn_s, dNotin_s, dEq_s, dEq_i, dEq_b, dNe_s, dNe_i, T_len, T_inj, dTT, lcTurn, gN, nbor, onB_bl, nborL, backD, T_subIn, dCall, daCons, daNil, dTup, dLst, dSeq, dIf, dPass, dSet, dDrop, dAsg, dOr, dAnd, dNot, dIfE, dIxV, dFn, dFnB, gT, gsCons, gsNil, SVd_f, SVd_o, SVd_b, dAdd_i, dSub_i, dInt_i, dLt_i, dGt_i, dGe_i, dLe_i, dEq_i, dNe_i, dIx, atI, ixN, hq3, hq4, s2]
    have z := wd_end (d4 := .int q) hz5 hk g1 (good_turn hk g1) fun z' T3 R h1 h2 h3 h4 h5 => hp z' f a b b a T3 R hk g1 (good_turn hk g1) h1 h2 h3 h4 h5
    exact z
  · refine ifP (fun h3 => ?_) (fun h3 => ?_)
    · have ga : goodC f [f, []] = true := good_sl hf (List.Sublist.refl _) (List.nil_sublist _) (by intro x hx hy; simp at hy)
      simp [s2]
      have z := wd_end (d4 := .int q) hz5 hk ga (good_turn hk ga) fun z' T3 R h1 h2 h3 h4 h5 => hp z' f f [] [] f T3 R hk ga (good_turn hk ga) h1 h2 h3 h4 h5
      exact z
    · have z := wd_end (d4 := .int q) hz5 hk g1 g2 fun z' T3 R h1 h2 h3 h4 h5 => hp z' f a b c d T3 R hk g1 g2 h1 h2 h3 h4 h5
      exact z
end K01

set_option Elab.async false
set_option linter.all false
set_option maxRecDepth 100000
set_option maxHeartbeats 4000000
namespace K01
open PySem PySem.Spec L2 Ow
set_option autoImplicit false
theorem keyOk_ck {L : List (List Nat × List Nat)} (h : L.length ≤ 1000000) : KeyOk (L.map pD) ckK := by
  refine keyOk_of (fun p => ?_) (fun p q => ?_) (fun p => ?_) (by unfold sizeLine; omega) (fun p => ?_)
  · simp [ckK_D, D.pur, purL]
  · simp [ckK_D, D.py, pyL, PySem.W.alike, PySem.W.alikeAll]
  · simp [ckK_D, D.py, pyL]
  · simp [ckK_D, D.py, pyL, PyData.depth, PyData.depthAll]
abbrev okP (n : Nat) (p : List Nat × List Nat) : Prop := (∀ c ∈ p.1, c ∈ FL) ∧ (∀ c ∈ p.2, c ∈ FL) ∧ p.1.length ≤ n ∧ p.2.length ≤ n
namespace S
def _law_cases : DSp := fun cs ds P => ∃ f : List Nat, cs = [] ∧ ds = [tD f] ∧ f.length ≤ 3 ∧ (∀ c ∈ f, c ∈ FL) ∧ ∀ L : List Cs, (∀ l ∈ L, okC l) → L.length ≤ 1000 → P (.ok (.own (.lst (L.map cD)))) []
end S
def r__law_cases : DS := (dSeq (dSet 1 (dLst (daCons (dTup (daCons (dC (.str "")) (daCons (dC (.str "")) daNil))) daNil))) (dSeq (dFor (dItems (dVar 0)) (gN 2) (dSeq (dSet 3 (dLst daNil)) (dSeq (dFor (dItems (dVar 1)) (gT (gsCons (gN 4) (gsCons (gN 5) gsNil))) (dSeq (dDrop (dMut 3 xAppend (daCons (dTup (daCons (dVar 4) (daCons (dVar 5) daNil))) daNil))) (dSeq (dDrop (dMut 3 xAppend (daCons (dTup (daCons (dOp dAdd (dVar 4) (dVarV 2)) (daCons (dVar 5) daNil))) daNil))) (dDrop (dMut 3 xAppend (daCons (dTup (daCons (dVar 4) (daCons (dOp dAdd (dVar 5) (dVarV 2)) daNil))) daNil)))))) (dSet 1 (dCall dList (daCons (dVarV 3) daNil)))))) (dRet (dCall (oSortK S._law_case_key) (daCons (dVarV 1) daNil)))))
def N__law_cases : List Str := ["fields", "cases", "field", "longer", "ahead", "behind"]
def ccI : DS := (dSeq (dDrop (dMut 3 xAppend (daCons (dTup (daCons (dVar 4) (daCons (dVar 5) daNil))) daNil))) (dSeq (dDrop (dMut 3 xAppend (daCons (dTup (daCons (dOp dAdd (dVar 4) (dVarV 2)) (daCons (dVar 5) daNil))) daNil))) (dDrop (dMut 3 xAppend (daCons (dTup (daCons (dVar 4) (daCons (dOp dAdd (dVar 5) (dVarV 2)) daNil))) daNil)))))
abbrev ccE (f : List Nat) (s1 : SV) (c : Nat) (M : List (List Nat × List Nat)) (o4 o5 : Option D) : Ow.Env := [some (.frz (tD f)), some s1, some (.frz (sgn c)), some (.own (.lst (M.map pD))), o4.map SV.frz, o5.map SV.frz]
theorem cc_i {f : List Nat} {s1 : SV} {c : Nat} {M : List (List Nat × List Nat)} {p : List Nat × List Nat} {K : SO → Ow.Env → Prop} (hM : M.length ≤ 1000) (h1 : p.1.length ≤ 1000) (h2 : p.2.length ≤ 1000)
    (hk : K .nx (ccE f s1 c (M ++ [p, (p.1 ++ [c], p.2), (p.1, p.2 ++ [c])]) (some (tD p.1)) (some (tD p.2)))) : ccI (ccE f s1 c M (some (tD p.1)) (some (tD p.2))) K := by
  have s2 : 2 ≤ sizeLine := by decide
  have m1 : M.length < sizeLine := by unfold sizeLine; omega
  have m2 : M.length + 1 < sizeLine := by unfold sizeLine; omega
  have m3 : M.length + 1 + 1 < sizeLine := by unfold sizeLine; omega
  simp [ccI, ccE, startD, endP, outs, dRet, dRetV, dsThen, dM1, dThen, daThen, dC, dLc, dItems, dVar, dVarV, still, D.items, D.isTxt, wipeD, SVd_f, SVd_o, SVd_b, SVm_f, SVm_o, SVm_b, SVp_f, SVp_o, SVp_b, dOp, dIn_s, dNotin_s, dEq_s, dEq_i, dEq_b, dNe_s, dNe_i, T_len, T_inj, dTT, lcTurn, gN, nbor, onB_bl, nborL, backD, T_subIn, dCall, daCons, daNil, dTup, dLst, dSeq, dIf, dPass, dSet, dDrop, dAsg, dOr, dAnd, dNot, dIfE, dIxV, dFn, dFnB, gT, gsCons, gsNil, SVd_f, SVd_o, SVd_b, dAdd_i, dSub_i, dInt_i, dLt_i, dGt_i, dGe_i, dLe_i, dEq_i, dNe_i, dMut, xAppend, s2, m1]
  refine dAdd_s (by simp; omega) ?_
  simp [startD, endP, outs, dRet, dRetV, dsThen, dM1, dThen, daThen, dC, dLc, dItems, dVar, dVarV, still, D.items, D.isTxt, wipeD, SVd_f, SVd_o, SVd_b, SVm_f, SVm_o, SVm_b, SVp_f, SVp_o, SVp_b, dOp, dIn_s, dNotin_s, dEq_s, dEq_i, dEq_b, dNe_s, dNe_i, T_len, T_inj, dTT, lcTurn, gN, nbor, onB_bl, nborL, backD, T_subIn, dCall, daCons, daNil, dTup, dLst, dSeq, dIf, dPass, dSet, dDrop, dAsg, dOr, dAnd, dNot, dIfE, dIxV, dFn, dFnB, gT, gsCons, gsNil, SVd_f, SVd_o, SVd_b, dAdd_i, dSub_i, dInt_i, dLt_i, dGt_i, dGe_i, dLe_i, dEq_i, dNe_i, xAppend, s2, m2]
  refine dAdd_s (by simp; omega) ?_
  simp [startD, endP, outs, dRet, dRetV, dsThen, dM1, dThen, daThen, dC, dLc, dItems, dVar, dVarV, still, D.items, D.isTxt, wipeD, SVd_f, SVd_o, SVd_b, SVm_f, SVm_o, SVm_b, SVp_f, SVp_o, SVp_b, dOp, dIn_s, dNotin_s, dEq_s, dEq_i, dEq_b, dNe_s, dNe_i, T_len, T_inj, dTT, lcTurn, gN, nbor, onB_bl, nborL, backD, T_subIn, dCall, daCons, daNil, dTup, dLst, dSeq, dIf, dPass, dSet, dDrop, dAsg, dOr, dAnd, dNot, dIfE, dIxV, dFn, dFnB, gT, gsCons, gsNil, SVd_f, SVd_o, SVd_b, dAdd_i, dSub_i, dInt_i, dLt_i, dGt_i, dGe_i, dLe_i, dEq_i, dNe_i, xAppend, s2, m3]
  simp [ccE] at hk
  exact hk
def ccB : DS := (dSeq (dSet 3 (dLst daNil)) (dSeq (dFor (dItems (dVar 1)) (gT (gsCons (gN 4) (gsCons (gN 5) gsNil))) ccI) (dSet 1 (dCall dList (daCons (dVarV 3) daNil)))))
theorem cc_b {f : List Nat} {L : List (List Nat × List Nat)} {c n : Nat} {o3 : Option SV} {o4 o5 : Option D} {K : SO → Ow.Env → Prop} (hn : n ≤ 100) (hc : c ∈ FL) (hL : L.length ≤ 100) (hp : ∀ p ∈ L, okP n p) (h3 : nbor (some o3))
    (hk : ∀ (M : List (List Nat × List Nat)) (o4 o5 : Option D), M.length = 3 * L.length → (∀ p ∈ M, okP (n + 1) p) → K .nx (ccE f (.own (.lst (M.map pD))) c M o4 o5)) :
    ccB [some (.frz (tD f)), some (.own (.lst (L.map pD))), some (.frz (sgn c)), o3, o4.map SV.frz, o5.map SV.frz] K := by
  simp [ccB, startD, endP, outs, dRet, dRetV, dsThen, dM1, dThen, daThen, dC, dLc, dItems, dVar, dVarV, still, D.items, D.isTxt, wipeD, SVd_f, SVd_o, SVd_b, SVm_f, SVm_o, SVm_b, SVp_f, SVp_o, SVp_b, dOp, dIn_s, dNotin_s, dEq_s, dEq_i, dEq_b, dNe_s, dNe_i, T_len, T_inj, dTT, lcTurn, gN, nbor, onB_bl, nborL, backD, T_subIn, dCall, daCons, daNil, dTup, dLst, dSeq, dIf, dPass, dSet, dDrop, dAsg, dOr, dAnd, dNot, dIfE, dIxV, dFn, dFnB, gT, gsCons, gsNil, SVd_f, SVd_o, SVd_b, dAdd_i, dSub_i, dInt_i, dLt_i, dGt_i, dGe_i, dLe_i, dEq_i, dNe_i, dFor] at h3 ⊢
  refine ⟨h3, ?_⟩
  refine forInv (fun r ρ => ∃ (M : List (List Nat × List Nat)) (o4 o5 : Option D), ρ = ccE f (.frz (.lst (L.map pD))) c M o4 o5 ∧ M.length + 3 * r.length = 3 * L.length ∧ (∀ p ∈ M, okP (n + 1) p) ∧ ∀ p ∈ r, okP n p) (fun p r ρ hi K hk' hr => ?_) L _ ⟨[], o4, o5, rfl, by simp, by simp, hp⟩ (fun ρ hi => ?_)
  · obtain ⟨M, o4, o5, rfl, i1, i2, i3⟩ := hi
    simp only [List.length_cons] at i1
    obtain ⟨q1, q2, q3, q4⟩ := i3 p (by simp)
    have go := cc_i (f := f) (s1 := .frz (.lst (L.map pD))) (c := c) (M := M) (p := p) (K := K) (by omega) (by omega) (by omega) (hk' _ ⟨_, _, _, rfl, by simp; omega, fun x hx => ?_, fun x hx => i3 x (by simp [hx])⟩)
    · cases o4 <;> cases o5 <;> simpa [startD, endP, outs, dRet, dRetV, dsThen, dM1, dThen, daThen, dC, dLc, dItems, dVar, dVarV, still, D.items, D.isTxt, wipeD, SVd_f, SVd_o, SVd_b, SVm_f, SVm_o, SVm_b, SVp_f, SVp_o, SVp_b, dOp, dIn_s, dNotin_s, dEq_s, dEq_i, dEq_b, dNe_s, dNe_i, T_len, T_inj, dTT, lcTurn, gN, nbor, onB_bl, nborL, backD, T_subIn, dCall, daCons, daNil, dTup, dLst, dSeq, dIf, dPass, dSet, dDrop, dAsg, dOr, dAnd, dNot, dIfE, dIxV, dFn, dFnB, gT, gsCons, gsNil, ccE] using go
    · rcases List.mem_append.mp hx with h | h
      · exact i2 x h
      · have a1 : ∀ {l : List Nat}, (∀ y ∈ l, y ∈ FL) → ∀ y ∈ l ++ [c], y ∈ FL := fun h y hy => (List.mem_append.mp hy).elim (h y) fun e => by simp at e; subst e; exact hc
        simp only [List.mem_cons, List.not_mem_nil, or_false] at h
        rcases h with rfl | rfl | rfl
        · exact ⟨q1, q2, by omega, by omega⟩
        · exact ⟨a1 q1, q2, by simp; omega, by simp; omega⟩
        · exact ⟨q1, a1 q2, by simp; omega, by simp; omega⟩
  · obtain ⟨M, o4, o5, rfl, i1, i2, i3⟩ := hi
    simp [startD, endP, outs, dRet, dRetV, dsThen, dM1, dThen, daThen, dC, dLc, dItems, dVar, dVarV, still, D.items, D.isTxt, wipeD, SVd_f, SVd_o, SVd_b, SVm_f, SVm_o, SVm_b, SVp_f, SVp_o, SVp_b, dOp, dIn_s, dNotin_s, dEq_s, dEq_i, dEq_b, dNe_s, dNe_i, T_len, T_inj, dTT, lcTurn, gN, nbor, onB_bl, nborL, backD, T_subIn, dCall, daCons, daNil, dTup, dLst, dSeq, dIf, dPass, dSet, dDrop, dAsg, dOr, dAnd, dNot, dIfE, dIxV, dFn, dFnB, gT, gsCons, gsNil, SVd_f, SVd_o, SVd_b, dAdd_i, dSub_i, dInt_i, dLt_i, dGt_i, dGe_i, dLe_i, dEq_i, dNe_i, dList, ccE]
    simp at i1
    exact hk M o4 o5 i1 i2
theorem p__law_cases : ∀ cs ds P, S._law_cases cs ds P → cs.length = 0 ∧ cs.length + ds.length = 1 ∧ r__law_cases (startD N__law_cases cs ds) (endP 0 P) := by
  rintro _ _ P ⟨f, rfl, rfl, hf, h6, hp⟩
  refine ⟨rfl, rfl, ?_⟩
  rw [show r__law_cases = (dSeq (dSet 1 (dLst (daCons (dTup (daCons (dC (.str "")) (daCons (dC (.str "")) daNil))) daNil))) (dSeq (dFor (dItems (dVar 0)) (gN 2) ccB) (dRet (dCall (oSortK S._law_case_key) (daCons (dVarV 1) daNil))))) from rfl]
  simp [N__law_cases, startD, endP, outs, dRet, dRetV, dsThen, dM1, dThen, daThen, dC, dLc, dItems, dVar, dVarV, still, D.items, D.isTxt, wipeD, SVd_f, SVd_o, SVd_b, SVm_f, SVm_o, SVm_b, SVp_f, SVp_o, SVp_b, dOp, dIn_s, dNotin_s, dEq_s, dEq_i, dEq_b, dNe_s, dNe_i, T_len, T_inj, dTT, lcTurn, gN, nbor, onB_bl, nborL, backD, T_subIn, dCall, daCons, daNil, dTup, dLst, dSeq, dIf, dPass, dSet, dDrop, dAsg, dOr, dAnd, dNot, dIfE, dIxV, dFn, dFnB, gT, gsCons, gsNil, SVd_f, SVd_o, SVd_b, dAdd_i, dSub_i, dInt_i, dLt_i, dGt_i, dGe_i, dLe_i, dEq_i, dNe_i, dFor]
  refine ⟨by decide, by decide, ?_⟩
  rw [T_signs]
  refine forInv (fun r ρ => ∃ (L : List (List Nat × List Nat)) (o2 : Option D) (o3 : Option SV) (o4 o5 : Option D), ρ = [some (.frz (tD f)), some (.own (.lst (L.map pD))), o2.map SV.frz, o3, o4.map SV.frz, o5.map SV.frz] ∧ nbor (some o3) ∧ (∀ c ∈ r, c ∈ f) ∧ (∃ n, n + r.length = f.length ∧ L.length = 3 ^ n ∧ ∀ p ∈ L, okP n p)) (fun c r ρ hi K hk' hr => ?_) f _ ⟨[([], [])], none, none, none, none, rfl, by simp [nbor], by simp, 0, by simp, by simp, by simp⟩ (fun ρ hi => ?_)
  · obtain ⟨L, o2, o3, o4, o5, rfl, i1, i2, n, i3, i4, i5⟩ := hi
    simp only [List.length_cons] at i3
    have hn : n = 0 ∨ n = 1 ∨ n = 2 := by omega
    have hl : 3 ^ n ≤ 9 := by rcases hn with rfl | rfl | rfl <;> decide
    simp only [gN]
    refine ⟨by cases o2 <;> simp [nbor], ?_⟩
    refine cc_b (n := n) (by omega) (h6 c (i2 c (by simp))) (by omega) i5 i1 fun M o4 o5 h1 h2 => ?_
    exact hk' _ ⟨M, some (sgn c), _, o4, o5, rfl, by simp [nbor], fun x hx => i2 x (by simp [hx]), n + 1, by omega, by rw [h1, i4, Nat.pow_succ]; omega, h2⟩
  · obtain ⟨L, o2, o3, o4, o5, rfl, i1, i2, n, i3, i4, i5⟩ := hi
    simp only [List.length_nil, Nat.add_zero] at i3
    have hn : n = 0 ∨ n = 1 ∨ n = 2 ∨ n = 3 := by omega
    have hl : 3 ^ n ≤ 27 := by rcases hn with rfl | rfl | rfl | rfl <;> decide
    simp [startD, endP, outs, dRet, dRetV, dsThen, dM1, dThen, daThen, dC, dLc, dItems, dVar, dVarV, still, D.items, D.isTxt, wipeD, SVd_f, SVd_o, SVd_b, SVm_f, SVm_o, SVm_b, SVp_f, SVp_o, SVp_b, dOp, dIn_s, dNotin_s, dEq_s, dEq_i, dEq_b, dNe_s, dNe_i, T_len, T_inj, dTT, lcTurn, gN, nbor, onB_bl, nborL, backD, T_subIn, dCall, daCons, daNil, dTup, dLst, dSeq, dIf, dPass, dSet, dDrop, dAsg, dOr, dAnd, dNot, dIfE, dIxV, dFn, dFnB, gT, gsCons, gsNil, SVd_f, SVd_o, SVd_b, dAdd_i, dSub_i, dInt_i, dLt_i, dGt_i, dGe_i, dLe_i, dEq_i, dNe_i, oSortK, keyAns, -List.map_map]
    obtain ⟨L2, p2, e2, a2⟩ := srt_map (enc := pD) (key := ckK) L
    refine ⟨ckK, ?_, keyOk_ck (by omega), ?_⟩
    · rintro dd x y hxy rfl Q hQ
      obtain ⟨_, _, q3, q4⟩ := i5 _ hxy
      refine ⟨x, y, rfl, rfl, ?_, ?_, ?_⟩
      · exact Nat.le_trans q3 (by omega)
      · exact Nat.le_trans q4 (by omega)
      · have e := ckK_D (x, y)
        rw [e] at hQ
        exact hQ
    · rw [e2]
      have z := hp (L2.map fun p => [p.1, p.2]) (fun l hl => ?_) (by rw [List.length_map, p2.length_eq]; omega)
      · rw [List.map_map] at z
        exact z
      · obtain ⟨p, hp, rfl⟩ := List.mem_map.mp hl
        obtain ⟨q1, q2, q3, q4⟩ := i5 p (p2.mem_iff.mp hp)
        exact ok_two ⟨six_low q1, by omega⟩ ⟨six_low q2, by omega⟩
end K01

set_option Elab.async false
set_option linter.all false
set_option maxRecDepth 100000
set_option maxHeartbeats 4000000
namespace K01
open PySem PySem.Spec L2 Ow
set_option autoImplicit false
theorem shown_comm : ∀ s, s < 3 → ∀ t, t < 3 → (shown s t).length = (shown t s).length ∧ ∀ r, r < 3 → (r ∈ shown s t ↔ r ∈ shown t s) := by
  intro s hs t ht
  refine ⟨?_, fun r hr => ?_⟩
  · have h1 : s = 0 ∨ s = 1 ∨ s = 2 := by omega
    have h2 : t = 0 ∨ t = 1 ∨ t = 2 := by omega
    rcases h1 with rfl | rfl | rfl <;> rcases h2 with rfl | rfl | rfl <;> decide
  · have h1 : s = 0 ∨ s = 1 ∨ s = 2 := by omega
    have h2 : t = 0 ∨ t = 1 ∨ t = 2 := by omega
    have h3 : r = 0 ∨ r = 1 ∨ r = 2 := by omega
    rcases h1 with rfl | rfl | rfl <;> rcases h2 with rfl | rfl | rfl <;> rcases h3 with rfl | rfl | rfl <;> decide
theorem prodL_congr {g h : Nat → List Nat} : ∀ f : List Nat, (∀ x ∈ f, (g x).length = (h x).length) → prodL (f.map g) = prodL (f.map h)
  | [], _ => rfl
  | x :: f, hx => by
    have ih := prodL_congr (g := g) (h := h) f fun y hy => hx y (by simp [hy])
    have h0 := hx x (by simp)
    simp only [prodL, List.map_cons, List.foldr_cons] at ih ⊢
    rw [h0, ih]
theorem sgns_swap_len (f a b c d : List Nat) : prodL (sgns f c d a b) = prodL (sgns f a b c d) :=
  prodL_congr f fun x _ => (shown_comm _ (sgn_lt _ _ _) _ (sgn_lt _ _ _)).1
theorem fits_swap (f a b c d g h : List Nat) : fitsB f (sgns f c d a b) g h = fitsB f (sgns f a b c d) g h := by
  unfold fitsB
  have e : ∀ i ∈ List.range f.length, fitAt f (sgns f c d a b) g h i = fitAt f (sgns f a b c d) g h i := by
    intro i hi
    have hi : i < f.length := by simpa using hi
    unfold fitAt
    have e1 : (sgns f c d a b).getD i [] = shown (sgnN c d f[i]) (sgnN a b f[i]) := by simp [sgns, hi]
    have e2 : (sgns f a b c d).getD i [] = shown (sgnN a b f[i]) (sgnN c d f[i]) := by simp [sgns, hi]
    rw [e1, e2]
    exact decide_eq_decide.mpr ((shown_comm _ (sgn_lt _ _ _) _ (sgn_lt _ _ _)).2 _ (sgn_lt _ _ _))
  rw [Bool.eq_iff_iff, List.all_eq_true, List.all_eq_true]
  exact ⟨fun z i hi => by rw [← e i hi]; exact z i hi, fun z i hi => by rw [e i hi]; exact z i hi⟩
theorem met_swap {f a b c d : List Nat} {p : List Nat × List Nat} (h : metC f (sgns f c d a b) p) : metC f (sgns f a b c d) p := by
  obtain ⟨h1, h2, h3, h4, h5⟩ := h
  exact ⟨h1, h2, h3, by rw [← fits_swap]; exact h4, h5⟩
end K01

set_option Elab.async false
set_option linter.all false
set_option maxRecDepth 100000
set_option maxHeartbeats 4000000
namespace K01
open PySem PySem.Spec L2 Ow
set_option autoImplicit false
namespace S
def law : DSp := fun cs ds P => ∃ xs : List Int, cs = [] ∧ (ds = [.lst (xs.map .int)] ∨ ds = [.arr (xs.map .int)]) ∧ xs.length ≤ 63 ∧ P (.ok (.frz (.bl true))) []
end S
def r_law : DS := (dSeq (dSet 1 (dFn S._law_store (daCons (dVar 0) daNil))) (dSeq (dAsg (dFnB S._law_world_drawn 1 daNil) (gT (gsCons (gN 2) (gsCons (gN 3) (gsCons (gN 4) (gsCons (gN 5) (gsCons (gN 6) gsNil))))))) (dSeq (dSet 7 (dFn S._law_signs (daCons (dVar 2) (daCons (dVar 3) (daCons (dVar 4) daNil))))) (dSeq (dIf (dOp dLtD (dCall dLen (daCons (dVarV 2) daNil)) (dC (.int 4))) (dSet 5 (dOp dAdd (dVar 5) (dFn S._law_cases (daCons (dVar 2) daNil)))) dPass) (dSeq (dFor (dItems (dVar 5)) (gN 8) (dIf (dNot (dFn S._law_round (daCons (dC (.int 1)) (daCons (dVar 2) (daCons (dVar 3) (daCons (dVar 4) (daCons (dVar 8) daNil))))))) (dRet (dC (.bl false))) dPass)) (dSeq (dSet 9 (dFn S.meetings (daCons (dVar 2) (daCons (dVar 3) (daCons (dVar 4) daNil))))) (dSeq (dIf (dNot (dFnS S._law_all_met (dNames [2, 7, 9]))) (dRet (dC (.bl false))) dPass) (dSeq (dDrop (dMut 9 xAppend (daCons (dTup (daCons (dC (.str "a")) (daCons (dC (.str "b")) daNil))) daNil))) (dSeq (dDrop (dMut 9 xPop (daCons (dC (.int 0)) daNil))) (dSeq (dFor (daMap (daCons (dC (.int 2)) daNil) kRng1) (gN 10) (dFor (dItems (dVar 6)) (gT (gsCons (gN 11) (gsCons (gN 12) (gsCons (gN 13) (gsCons (gN 14) gsNil))))) (dSeq (dIf (dOr (dNot (dFn S._law_round (daCons (dVar 10) (daCons (dVar 11) (daCons (dVar 12) (daCons (dVar 13) (daCons (dVar 14) daNil))))))) (dNot (dFn S._law_round (daCons (dVar 10) (daCons (dVar 2) (daCons (dVar 12) (daCons (dVar 13) (daCons (dVar 14) daNil)))))))) (dRet (dC (.bl false))) dPass) (dIf (dOr (dNot (dFn S._law_round (daCons (dVar 10) (daCons (dVar 2) (daCons (dVar 3) (daCons (dVar 12) (daCons (dIxV 5 dIx (dC (.int 0))) daNil))))))) (dNot (dFn S._law_round (daCons (dVar 10) (daCons (dVar 2) (daCons (dVar 3) (daCons (dVar 4) (daCons (dVar 12) daNil)))))))) (dRet (dC (.bl false))) dPass)))) (dRet (dAnd (dFn S._law_round (daCons (dC (.int 0)) (daCons (dVar 2) (daCons (dVar 3) (daCons (dVar 4) (daCons (dIxV 5 dIx (dC (.int 0))) daNil)))))) (dFn S._law_all_met (daCons (dVar 2) (daCons (dVar 7) (daCons (dFn S.meetings (daCons (dVar 2) (daCons (dVar 4) (daCons (dVar 3) daNil)))) daNil))))))))))))))))
def N_law : List Str := ((["script", "store", "fields", "one", "two", "thirds", "rounds", "signs", "third", "first", "which", "bad"] : List PySem.Str) ++ (["x", "y", "z"] : List PySem.Str))
theorem okC_sm {l : Cs} (h : okC l) : smC l ∧ lowC l := ⟨⟨Nat.le_trans h.1 (by decide), fun x hx => Nat.le_trans (h.2 x hx).2 (by decide)⟩, fun x hx => (h.2 x hx).1⟩
theorem use_round {w : Nat} {f : List Nat} {l1 l2 l3 : Cs} {P : O → List D → Prop} (hw : w ≤ 1) (hf : tx f) (h1 : okC l1) (h2 : okC l2) (h3 : okC l3) (hp : P (.ok (.frz (.bl true))) []) : S._law_round [] [.int w, tD f, cD l1, cD l2, cD l3] P :=
  ⟨w, f, l1, l2, l3, rfl, rfl, hw, Nat.le_trans hf.2 (by decide), hf.1, okC_sm h1, okC_sm h2, okC_sm h3, hp⟩
abbrev lwE (d0 : D) (z : Sto) (f a b c d : List Nat) (T3 : List Cs) (R : List Rd) (o8 : Option D) (s9 : Option SV) (o10 o11 o12 o13 o14 : Option D) : Ow.Env :=
  [some (.frz d0), some (.own z.d), some (.frz (tD f)), some (.frz (cD [a, b])), some (.frz (cD [c, d])), some (.frz (.lst (T3.map cD))), some (.frz (.lst (R.map rD))), some (.own (rowsD (sgns f a b c d))), o8.map SV.frz, s9, o10.map SV.frz, o11.map SV.frz, o12.map SV.frz, o13.map SV.frz, o14.map SV.frz]
def rdB : DS := (dSeq (dIf (dOr (dNot (dFn S._law_round (daCons (dVar 10) (daCons (dVar 11) (daCons (dVar 12) (daCons (dVar 13) (daCons (dVar 14) daNil))))))) (dNot (dFn S._law_round (daCons (dVar 10) (daCons (dVar 2) (daCons (dVar 12) (daCons (dVar 13) (daCons (dVar 14) daNil)))))))) (dRet (dC (.bl false))) dPass) (dIf (dOr (dNot (dFn S._law_round (daCons (dVar 10) (daCons (dVar 2) (daCons (dVar 3) (daCons (dVar 12) (daCons (dIxV 5 dIx (dC (.int 0))) daNil))))))) (dNot (dFn S._law_round (daCons (dVar 10) (daCons (dVar 2) (daCons (dVar 3) (daCons (dVar 4) (daCons (dVar 12) daNil)))))))) (dRet (dC (.bl false))) dPass))
theorem ix0 {T3 : List Cs} (h : T3 ≠ []) : ∃ t ∈ T3, atI (T3.map cD) 0 = some (cD t) := by
  match T3, h with
  | t :: T3, _ => exact ⟨t, by simp, by simp [atI, ixN]⟩
theorem rd_b {d0 : D} {z : Sto} {f a b c d : List Nat} {T3 : List Cs} {R : List Rd} {o8 : Option D} {s9 : Option SV} {n : Nat} {x : Rd} {K : SO → Ow.Env → Prop} (hn : n ≤ 1) (hk : fok f = true) (g1 : goodC f [a, b] = true) (g2 : goodC f [c, d] = true) (hT : T3 ≠ []) (hT2 : ∀ t ∈ T3, okC t) (hx : okR x)
    (hK : K .nx (lwE d0 z f a b c d T3 R o8 s9 (some (nI n)) (some (tD x.1)) (some (cD x.2.1)) (some (cD x.2.2.1)) (some (cD x.2.2.2)))) : rdB (lwE d0 z f a b c d T3 R o8 s9 (some (nI n)) (some (tD x.1)) (some (cD x.2.1)) (some (cD x.2.2.1)) (some (cD x.2.2.2))) K := by
  have tf : tx f := ⟨six_low (fok_six hk), Nat.le_trans (fok_len hk) (by decide)⟩
  have o1 : okC [a, b] := ok_two (good_tx hk g1).1 (good_tx hk g1).2
  have o2 : okC [c, d] := ok_two (good_tx hk g2).1 (good_tx hk g2).2
  obtain ⟨t, ht, et⟩ := ix0 hT
  simp [rdB, lwE, startD, endP, outs, dRet, dRetV, dsThen, dM1, dThen, daThen, dC, dLc, dItems, dVar, dVarV, still, D.items, D.isTxt, wipeD, SVd_f, SVd_o, SVd_b, SVm_f, SVm_o, SVm_b, SVp_f, SVp_o, SVp_b, dOp, dIn_s, dNotin_s, dEq_s, dEq_i, dEq_b, dNe_s, dNe_i, T_len, T_inj, dTT, lcTurn, gN, nbor, onB_bl, nborL, backD, T_subIn, dCall, daCons, daNil, dTup, dLst, dSeq, dIf, dPass, dSet, dDrop, dAsg, dOr, dAnd, dNot, dIfE, dIxV, dFn, dFnB, gT, gsCons, gsNil, SVd_f, SVd_o, SVd_b, dAdd_i, dSub_i, dInt_i, dLt_i, dGt_i, dGe_i, dLe_i, dEq_i, dNe_i]
  refine use_round hn hx.1 hx.2.1 hx.2.2.1 hx.2.2.2 ?_
  simp [startD, endP, outs, dRet, dRetV, dsThen, dM1, dThen, daThen, dC, dLc, dItems, dVar, dVarV, still, D.items, D.isTxt, wipeD, SVd_f, SVd_o, SVd_b, SVm_f, SVm_o, SVm_b, SVp_f, SVp_o, SVp_b, dOp, dIn_s, dNotin_s, dEq_s, dEq_i, dEq_b, dNe_s, dNe_i, T_len, T_inj, dTT, lcTurn, gN, nbor, onB_bl, nborL, backD, T_subIn, dCall, daCons, daNil, dTup, dLst, dSeq, dIf, dPass, dSet, dDrop, dAsg, dOr, dAnd, dNot, dIfE, dIxV, dFn, dFnB, gT, gsCons, gsNil, SVd_f, SVd_o, SVd_b, dAdd_i, dSub_i, dInt_i, dLt_i, dGt_i, dGe_i, dLe_i, dEq_i, dNe_i]
  refine use_round hn tf hx.2.1 hx.2.2.1 hx.2.2.2 ?_
  simp [startD, endP, outs, dRet, dRetV, dsThen, dM1, dThen, daThen, dC, dLc, dItems, dVar, dVarV, still, D.items, D.isTxt, wipeD, SVd_f, SVd_o, SVd_b, SVm_f, SVm_o, SVm_b, SVp_f, SVp_o, SVp_b, dOp, dIn_s, dNotin_s, dEq_s, dEq_i, dEq_b, dNe_s, dNe_i, T_len, T_inj, dTT, lcTurn, gN, nbor, onB_bl, nborL, backD, T_subIn, dCall, daCons, daNil, dTup, dLst, dSeq, dIf, dPass, dSet, dDrop, dAsg, dOr, dAnd, dNot, dIfE, dIxV, dFn, dFnB, gT, gsCons, gsNil, SVd_f, SVd_o, SVd_b, dAdd_i, dSub_i, dInt_i, dLt_i, dGt_i, dGe_i, dLe_i, dEq_i, dNe_i, dIx, et]
  refine use_round (l1 := [a, b]) hn tf o1 hx.2.1 (hT2 t ht) ?_
  simp [startD, endP, outs, dRet, dRetV, dsThen, dM1, dThen, daThen, dC, dLc, dItems, dVar, dVarV, still, D.items, D.isTxt, wipeD, SVd_f, SVd_o, SVd_b, SVm_f, SVm_o, SVm_b, SVp_f, SVp_o, SVp_b, dOp, dIn_s, dNotin_s, dEq_s, dEq_i, dEq_b, dNe_s, dNe_i, T_len, T_inj, dTT, lcTurn, gN, nbor, onB_bl, nborL, backD, T_subIn, dCall, daCons, daNil, dTup, dLst, dSeq, dIf, dPass, dSet, dDrop, dAsg, dOr, dAnd, dNot, dIfE, dIxV, dFn, dFnB, gT, gsCons, gsNil, SVd_f, SVd_o, SVd_b, dAdd_i, dSub_i, dInt_i, dLt_i, dGt_i, dGe_i, dLe_i, dEq_i, dNe_i]
  refine use_round (l1 := [a, b]) (l2 := [c, d]) hn tf o1 o2 hx.2.1 ?_
  simp [startD, endP, outs, dRet, dRetV, dsThen, dM1, dThen, daThen, dC, dLc, dItems, dVar, dVarV, still, D.items, D.isTxt, wipeD, SVd_f, SVd_o, SVd_b, SVm_f, SVm_o, SVm_b, SVp_f, SVp_o, SVp_b, dOp, dIn_s, dNotin_s, dEq_s, dEq_i, dEq_b, dNe_s, dNe_i, T_len, T_inj, dTT, lcTurn, gN, nbor, onB_bl, nborL, backD, T_subIn, dCall, daCons, daNil, dTup, dLst, dSeq, dIf, dPass, dSet, dDrop, dAsg, dOr, dAnd, dNot, dIfE, dIxV, dFn, dFnB, gT, gsCons, gsNil, SVd_f, SVd_o, SVd_b, dAdd_i, dSub_i, dInt_i, dLt_i, dGt_i, dGe_i, dLe_i, dEq_i, dNe_i]
  simpa [lwE] using hK
def rdL : DS := (dFor (dItems (dVar 6)) (gT (gsCons (gN 11) (gsCons (gN 12) (gsCons (gN 13) (gsCons (gN 14) gsNil))))) rdB)
theorem rd_l {d0 : D} {z : Sto} {f a b c d : List Nat} {T3 : List Cs} {R : List Rd} {o8 o11 o12 o13 o14 : Option D} {s9 : Option SV} {n : Nat} {K : SO → Ow.Env → Prop} (hn : n ≤ 1) (hk : fok f = true) (g1 : goodC f [a, b] = true) (g2 : goodC f [c, d] = true) (hT : T3 ≠ []) (hT2 : ∀ t ∈ T3, okC t) (hR : ∀ r ∈ R, okR r)
    (hK : ∀ o11 o12 o13 o14, K .nx (lwE d0 z f a b c d T3 R o8 s9 (some (nI n)) o11 o12 o13 o14)) : rdL (lwE d0 z f a b c d T3 R o8 s9 (some (nI n)) o11 o12 o13 o14) K := by
  simp [rdL, lwE, startD, endP, outs, dRet, dRetV, dsThen, dM1, dThen, daThen, dC, dLc, dItems, dVar, dVarV, still, D.items, D.isTxt, wipeD, SVd_f, SVd_o, SVd_b, SVm_f, SVm_o, SVm_b, SVp_f, SVp_o, SVp_b, dOp, dIn_s, dNotin_s, dEq_s, dEq_i, dEq_b, dNe_s, dNe_i, T_len, T_inj, dTT, lcTurn, gN, nbor, onB_bl, nborL, backD, T_subIn, dCall, daCons, daNil, dTup, dLst, dSeq, dIf, dPass, dSet, dDrop, dAsg, dOr, dAnd, dNot, dIfE, dIxV, dFn, dFnB, gT, gsCons, gsNil, SVd_f, SVd_o, SVd_b, dAdd_i, dSub_i, dInt_i, dLt_i, dGt_i, dGe_i, dLe_i, dEq_i, dNe_i, dFor]
  refine forInv (fun r ρ => ∃ o11 o12 o13 o14 : Option D, ρ = lwE d0 z f a b c d T3 R o8 s9 (some (nI n)) o11 o12 o13 o14 ∧ ∀ x ∈ r, okR x) (fun x r ρ hi K hk' hr => ?_) R _ ⟨o11, o12, o13, o14, rfl, hR⟩ (fun ρ hi => ?_)
  · obtain ⟨o11, o12, o13, o14, rfl, i1⟩ := hi
    have go := rd_b (d0 := d0) (z := z) (R := R) (o8 := o8) (s9 := s9) (K := K) hn hk g1 g2 hT hT2 (i1 x (by simp)) (hk' _ ⟨_, _, _, _, rfl, fun y hy => i1 y (by simp [hy])⟩)
    cases o11 <;> cases o12 <;> cases o13 <;> cases o14 <;> simpa [startD, endP, outs, dRet, dRetV, dsThen, dM1, dThen, daThen, dC, dLc, dItems, dVar, dVarV, still, D.items, D.isTxt, wipeD, SVd_f, SVd_o, SVd_b, SVm_f, SVm_o, SVm_b, SVp_f, SVp_o, SVp_b, dOp, dIn_s, dNotin_s, dEq_s, dEq_i, dEq_b, dNe_s, dNe_i, T_len, T_inj, dTT, lcTurn, gN, nbor, onB_bl, nborL, backD, T_subIn, dCall, daCons, daNil, dTup, dLst, dSeq, dIf, dPass, dSet, dDrop, dAsg, dOr, dAnd, dNot, dIfE, dIxV, dFn, dFnB, gT, gsCons, gsNil, lwE] using go
  · obtain ⟨o11, o12, o13, o14, rfl, _⟩ := hi
    exact hK o11 o12 o13 o14
def lwY : DS := (dSeq (dFor (daMap (daCons (dC (.int 2)) daNil) kRng1) (gN 10) rdL) (dRet (dAnd (dFn S._law_round (daCons (dC (.int 0)) (daCons (dVar 2) (daCons (dVar 3) (daCons (dVar 4) (daCons (dIxV 5 dIx (dC (.int 0))) daNil)))))) (dFn S._law_all_met (daCons (dVar 2) (daCons (dVar 7) (daCons (dFn S.meetings (daCons (dVar 2) (daCons (dVar 4) (daCons (dVar 3) daNil)))) daNil)))))))
def lwZ : DS := (dSeq (dSet 9 (dFn S.meetings (daCons (dVar 2) (daCons (dVar 3) (daCons (dVar 4) daNil))))) (dSeq (dIf (dNot (dFnS S._law_all_met (dNames [2, 7, 9]))) (dRet (dC (.bl false))) dPass) (dSeq (dDrop (dMut 9 xAppend (daCons (dTup (daCons (dC (.str "a")) (daCons (dC (.str "b")) daNil))) daNil))) (dSeq (dDrop (dMut 9 xPop (daCons (dC (.int 0)) daNil))) lwY))))
theorem mErr_ok {f : List Nat} {l1 l2 : Cs} (hk : fok f = true) (g1 : goodC f l1 = true) (g2 : goodC f l2 = true) : mErr f [l1, l2] = none := by
  simp [mErr, cErr, hk, g1, g2]
theorem use_meet {f a b c d : List Nat} {P : O → List D → Prop} (hk : fok f = true) (g1 : goodC f [a, b] = true) (g2 : goodC f [c, d] = true)
    (hp : ∀ L : List (List Nat × List Nat), L.Perm (metU a b c d) → L.Pairwise (fun p q => ltC q p = false) → P (.ok (.own (.lst (L.map pD)))) []) : S.meetings [] [tD f, cD [a, b], cD [c, d]] P := by
  have o1 : okC [a, b] := ok_two (good_tx hk g1).1 (good_tx hk g1).2
  have o2 : okC [c, d] := ok_two (good_tx hk g2).1 (good_tx hk g2).2
  refine ⟨f, [a, b], [c, d], rfl, rfl, Nat.le_trans (fok_len hk) (by decide), (okC_sm o1).1, (okC_sm o2).1, ?_⟩
  rw [mErr_ok hk g1 g2]
  intro a' b' c' d' e1 e2 L pm pw
  cases e1
  cases e2
  exact hp L pm pw
theorem lw_y {d0 : D} {z : Sto} {f a b c d : List Nat} {T3 : List Cs} {R : List Rd} {o8 : Option D} {s9 : Option SV} {P : O → List D → Prop} (hk : fok f = true) (g1 : goodC f [a, b] = true) (g2 : goodC f [c, d] = true) (hT : T3 ≠ []) (hT2 : ∀ t ∈ T3, okC t) (hR : ∀ r ∈ R, okR r)
    (hp : P (.ok (.frz (.bl true))) []) : lwY (lwE d0 z f a b c d T3 R o8 s9 none none none none none) (endP 0 P) := by
  have tf : tx f := ⟨six_low (fok_six hk), Nat.le_trans (fok_len hk) (by decide)⟩
  have hl := fok_len hk
  have o1 : okC [a, b] := ok_two (good_tx hk g1).1 (good_tx hk g1).2
  have o2 : okC [c, d] := ok_two (good_tx hk g2).1 (good_tx hk g2).2
  obtain ⟨t, ht, et⟩ := ix0 hT
  simp only [lwY, dSeq, dFor, daMap, daCons, daNil, dC, kRng1, range_n, dThen, SVd_f]
  refine ⟨⟨by decide, by decide⟩, ?_⟩
  refine forInv (fun r ρ => ∃ o10 o11 o12 o13 o14 : Option D, ρ = lwE d0 z f a b c d T3 R o8 s9 o10 o11 o12 o13 o14 ∧ ∀ n ∈ r, n ≤ 1) (fun n r ρ hi K hk' hr => ?_) (List.range 2) _ ⟨none, none, none, none, none, rfl, by intro n hn; simp at hn; omega⟩ (fun ρ hi => ?_)
  · obtain ⟨o10, o11, o12, o13, o14, rfl, i1⟩ := hi
    simp only [gN, lwE]
    refine ⟨by cases o10 <;> simp [nbor], ?_⟩
    exact rd_l (d0 := d0) (z := z) (o8 := o8) (s9 := s9) (o11 := o11) (o12 := o12) (o13 := o13) (o14 := o14) (i1 n (by simp)) hk g1 g2 hT hT2 hR fun o11 o12 o13 o14 => hk' _ ⟨_, o11, o12, o13, o14, rfl, fun y hy => i1 y (by simp [hy])⟩
  · obtain ⟨o10, o11, o12, o13, o14, rfl, i1⟩ := hi
    simp [lwE, startD, endP, outs, dRet, dRetV, dsThen, dM1, dThen, daThen, dC, dLc, dItems, dVar, dVarV, still, D.items, D.isTxt, wipeD, SVd_f, SVd_o, SVd_b, SVm_f, SVm_o, SVm_b, SVp_f, SVp_o, SVp_b, dOp, dIn_s, dNotin_s, dEq_s, dEq_i, dEq_b, dNe_s, dNe_i, T_len, T_inj, dTT, lcTurn, gN, nbor, onB_bl, nborL, backD, T_subIn, dCall, daCons, daNil, dTup, dLst, dSeq, dIf, dPass, dSet, dDrop, dAsg, dOr, dAnd, dNot, dIfE, dIxV, dFn, dFnB, gT, gsCons, gsNil, SVd_f, SVd_o, SVd_b, dAdd_i, dSub_i, dInt_i, dLt_i, dGt_i, dGe_i, dLe_i, dEq_i, dNe_i, dIx, et]
    refine use_round (w := 0) (l1 := [a, b]) (l2 := [c, d]) (by decide) tf o1 o2 (hT2 t ht) ?_
    simp [startD, endP, outs, dRet, dRetV, dsThen, dM1, dThen, daThen, dC, dLc, dItems, dVar, dVarV, still, D.items, D.isTxt, wipeD, SVd_f, SVd_o, SVd_b, SVm_f, SVm_o, SVm_b, SVp_f, SVp_o, SVp_b, dOp, dIn_s, dNotin_s, dEq_s, dEq_i, dEq_b, dNe_s, dNe_i, T_len, T_inj, dTT, lcTurn, gN, nbor, onB_bl, nborL, backD, T_subIn, dCall, daCons, daNil, dTup, dLst, dSeq, dIf, dPass, dSet, dDrop, dAsg, dOr, dAnd, dNot, dIfE, dIxV, dFn, dFnB, gT, gsCons, gsNil, SVd_f, SVd_o, SVd_b, dAdd_i, dSub_i, dInt_i, dLt_i, dGt_i, dGe_i, dLe_i, dEq_i, dNe_i]
    refine use_meet hk g2 g1 fun L pm pw => ?_
    obtain ⟨m1, m2, m3, m4, m5⟩ := met_facts hk g2 g1 pm pw
    simp [startD, endP, outs, dRet, dRetV, dsThen, dM1, dThen, daThen, dC, dLc, dItems, dVar, dVarV, still, D.items, D.isTxt, wipeD, SVd_f, SVd_o, SVd_b, SVm_f, SVm_o, SVm_b, SVp_f, SVp_o, SVp_b, dOp, dIn_s, dNotin_s, dEq_s, dEq_i, dEq_b, dNe_s, dNe_i, T_len, T_inj, dTT, lcTurn, gN, nbor, onB_bl, nborL, backD, T_subIn, dCall, daCons, daNil, dTup, dLst, dSeq, dIf, dPass, dSet, dDrop, dAsg, dOr, dAnd, dNot, dIfE, dIxV, dFn, dFnB, gT, gsCons, gsNil, SVd_f, SVd_o, SVd_b, dAdd_i, dSub_i, dInt_i, dLt_i, dGt_i, dGe_i, dLe_i, dEq_i, dNe_i]
    exact ⟨f, sgns f a b c d, L, rfl, rfl, by omega, by simp [sgns], by rw [m1, sgns_swap_len], m2, m3, fun p h => met_swap (m4 p h), m5, hp⟩
theorem lw_z {d0 : D} {z : Sto} {f a b c d : List Nat} {T3 : List Cs} {R : List Rd} {o8 : Option D} {P : O → List D → Prop} (hk : fok f = true) (g1 : goodC f [a, b] = true) (g2 : goodC f [c, d] = true) (hT : T3 ≠ []) (hT2 : ∀ t ∈ T3, okC t) (hR : ∀ r ∈ R, okR r)
    (hp : P (.ok (.frz (.bl true))) []) : lwZ (lwE d0 z f a b c d T3 R o8 none none none none none none) (endP 0 P) := by
  have hl := fok_len hk
  have s2 : 2 ≤ sizeLine := by decide
  simp [lwZ, lwE, startD, endP, outs, dRet, dRetV, dsThen, dM1, dThen, daThen, dC, dLc, dItems, dVar, dVarV, still, D.items, D.isTxt, wipeD, SVd_f, SVd_o, SVd_b, SVm_f, SVm_o, SVm_b, SVp_f, SVp_o, SVp_b, dOp, dIn_s, dNotin_s, dEq_s, dEq_i, dEq_b, dNe_s, dNe_i, T_len, T_inj, dTT, lcTurn, gN, nbor, onB_bl, nborL, backD, T_subIn, dCall, daCons, daNil, dTup, dLst, dSeq, dIf, dPass, dSet, dDrop, dAsg, dOr, dAnd, dNot, dIfE, dIxV, dFn, dFnB, gT, gsCons, gsNil, SVd_f, SVd_o, SVd_b, dAdd_i, dSub_i, dInt_i, dLt_i, dGt_i, dGe_i, dLe_i, dEq_i, dNe_i]
  refine use_meet hk g1 g2 fun L pm pw => ?_
  obtain ⟨m1, m2, m3, m4, m5⟩ := met_facts hk g1 g2 pm pw
  simp [startD, endP, outs, dRet, dRetV, dsThen, dM1, dThen, daThen, dC, dLc, dItems, dVar, dVarV, still, D.items, D.isTxt, wipeD, SVd_f, SVd_o, SVd_b, SVm_f, SVm_o, SVm_b, SVp_f, SVp_o, SVp_b, dOp, dIn_s, dNotin_s, dEq_s, dEq_i, dEq_b, dNe_s, dNe_i, T_len, T_inj, dTT, lcTurn, gN, nbor, onB_bl, nborL, backD, T_subIn, dCall, daCons, daNil, dTup, dLst, dSeq, dIf, dPass, dSet, dDrop, dAsg, dOr, dAnd, dNot, dIfE, dIxV, dFn, dFnB, gT, gsCons, gsNil, SVd_f, SVd_o, SVd_b, dAdd_i, dSub_i, dInt_i, dLt_i, dGt_i, dGe_i, dLe_i, dEq_i, dNe_i, dFnS, dNames, slotD]
  refine ⟨f, sgns f a b c d, L, rfl, rfl, by omega, by simp [sgns], m1, m2, m3, m4, m5, ?_⟩
  simp [startD, endP, outs, dRet, dRetV, dsThen, dM1, dThen, daThen, dC, dLc, dItems, dVar, dVarV, still, D.items, D.isTxt, wipeD, SVd_f, SVd_o, SVd_b, SVm_f, SVm_o, SVm_b, SVp_f, SVp_o, SVp_b, dOp, dIn_s, dNotin_s, dEq_s, dEq_i, dEq_b, dNe_s, dNe_i, T_len, T_inj, dTT, lcTurn, gN, nbor, onB_bl, nborL, backD, T_subIn, dCall, daCons, daNil, dTup, dLst, dSeq, dIf, dPass, dSet, dDrop, dAsg, dOr, dAnd, dNot, dIfE, dIxV, dFn, dFnB, gT, gsCons, gsNil, SVd_f, SVd_o, SVd_b, dAdd_i, dSub_i, dInt_i, dLt_i, dGt_i, dGe_i, dLe_i, dEq_i, dNe_i, D.flat, dMut, xAppend, xPop]
  refine ⟨s2, by unfold sizeLine; omega, 0, ?_, ?_⟩
  · simp [seqIndex?] <;> omega
  · match L, m2 with
    | p :: L, _ =>
      refine ⟨⟨pD p, by simp⟩, ?_⟩
      exact lw_y (s9 := some (.own _)) hk g1 g2 hT hT2 hR hp
def lwT : DS := (dIf (dNot (dFn S._law_round (daCons (dC (.int 1)) (daCons (dVar 2) (daCons (dVar 3) (daCons (dVar 4) (daCons (dVar 8) daNil))))))) (dRet (dC (.bl false))) dPass)
def lwX : DS := (dSeq (dFor (dItems (dVar 5)) (gN 8) lwT) lwZ)
theorem lw_t {d0 : D} {z : Sto} {f a b c d : List Nat} {T3 : List Cs} {R : List Rd} {t : Cs} {K : SO → Ow.Env → Prop} (hk : fok f = true) (g1 : goodC f [a, b] = true) (g2 : goodC f [c, d] = true) (ht : okC t)
    (hK : K .nx (lwE d0 z f a b c d T3 R (some (cD t)) none none none none none none)) : lwT (lwE d0 z f a b c d T3 R (some (cD t)) none none none none none none) K := by
  have tf : tx f := ⟨six_low (fok_six hk), Nat.le_trans (fok_len hk) (by decide)⟩
  have o1 : okC [a, b] := ok_two (good_tx hk g1).1 (good_tx hk g1).2
  have o2 : okC [c, d] := ok_two (good_tx hk g2).1 (good_tx hk g2).2
  simp [lwT, lwE, startD, endP, outs, dRet, dRetV, dsThen, dM1, dThen, daThen, dC, dLc, dItems, dVar, dVarV, still, D.items, D.isTxt, wipeD, SVd_f, SVd_o, SVd_b, SVm_f, SVm_o, SVm_b, SVp_f, SVp_o, SVp_b, dOp, dIn_s, dNotin_s, dEq_s, dEq_i, dEq_b, dNe_s, dNe_i, T_len, T_inj, dTT, lcTurn, gN, nbor, onB_bl, nborL, backD, T_subIn, dCall, daCons, daNil, dTup, dLst, dSeq, dIf, dPass, dSet, dDrop, dAsg, dOr, dAnd, dNot, dIfE, dIxV, dFn, dFnB, gT, gsCons, gsNil, SVd_f, SVd_o, SVd_b, dAdd_i, dSub_i, dInt_i, dLt_i, dGt_i, dGe_i, dLe_i, dEq_i, dNe_i]
  refine use_round (w := 1) (l1 := [a, b]) (l2 := [c, d]) (by decide) tf o1 o2 ht ?_
  simp [startD, endP, outs, dRet, dRetV, dsThen, dM1, dThen, daThen, dC, dLc, dItems, dVar, dVarV, still, D.items, D.isTxt, wipeD, SVd_f, SVd_o, SVd_b, SVm_f, SVm_o, SVm_b, SVp_f, SVp_o, SVp_b, dOp, dIn_s, dNotin_s, dEq_s, dEq_i, dEq_b, dNe_s, dNe_i, T_len, T_inj, dTT, lcTurn, gN, nbor, onB_bl, nborL, backD, T_subIn, dCall, daCons, daNil, dTup, dLst, dSeq, dIf, dPass, dSet, dDrop, dAsg, dOr, dAnd, dNot, dIfE, dIxV, dFn, dFnB, gT, gsCons, gsNil, SVd_f, SVd_o, SVd_b, dAdd_i, dSub_i, dInt_i, dLt_i, dGt_i, dGe_i, dLe_i, dEq_i, dNe_i]
  simpa [lwE] using hK
theorem lw_x {d0 : D} {z : Sto} {f a b c d : List Nat} {T3 : List Cs} {R : List Rd} {s5 : SV} {P : O → List D → Prop} (h5 : s5 = .frz (.lst (T3.map cD)) ∨ s5 = .own (.lst (T3.map cD))) (hk : fok f = true) (g1 : goodC f [a, b] = true) (g2 : goodC f [c, d] = true) (hT : T3 ≠ []) (hT2 : ∀ t ∈ T3, okC t) (hR : ∀ r ∈ R, okR r)
    (hp : P (.ok (.frz (.bl true))) []) : lwX [some (.frz d0), some (.own z.d), some (.frz (tD f)), some (.frz (cD [a, b])), some (.frz (cD [c, d])), some s5, some (.frz (.lst (R.map rD))), some (.own (rowsD (sgns f a b c d))), none, none, none, none, none, none, none] (endP 0 P) := by
  rcases h5 with rfl | rfl <;> (
    simp [lwX, startD, endP, outs, dRet, dRetV, dsThen, dM1, dThen, daThen, dC, dLc, dItems, dVar, dVarV, still, D.items, D.isTxt, wipeD, SVd_f, SVd_o, SVd_b, SVm_f, SVm_o, SVm_b, SVp_f, SVp_o, SVp_b, dOp, dIn_s, dNotin_s, dEq_s, dEq_i, dEq_b, dNe_s, dNe_i, T_len, T_inj, dTT, lcTurn, gN, nbor, onB_bl, nborL, backD, T_subIn, dCall, daCons, daNil, dTup, dLst, dSeq, dIf, dPass, dSet, dDrop, dAsg, dOr, dAnd, dNot, dIfE, dIxV, dFn, dFnB, gT, gsCons, gsNil, SVd_f, SVd_o, SVd_b, dAdd_i, dSub_i, dInt_i, dLt_i, dGt_i, dGe_i, dLe_i, dEq_i, dNe_i, dFor]
    refine forInv (fun r ρ => ∃ o8 : Option D, ρ = lwE d0 z f a b c d T3 R o8 none none none none none none ∧ ∀ x ∈ r, okC x) (fun t r ρ hi K hk' hr => ?_) T3 _ ⟨none, rfl, hT2⟩ (fun ρ hi => ?_)
    · obtain ⟨o8, rfl, i1⟩ := hi
      simp only [gN, lwE]
      refine ⟨by cases o8 <;> simp [nbor], ?_⟩
      exact lw_t (d0 := d0) (z := z) (T3 := T3) (R := R) hk g1 g2 (i1 t (by simp)) (hk' _ ⟨_, rfl, fun y hy => i1 y (by simp [hy])⟩)
    · obtain ⟨o8, rfl, i1⟩ := hi
      exact lw_z hk g1 g2 hT hT2 hR hp)
theorem lw_go {d0 : D} (hd : ∃ xs : List Int, (d0 = .lst (xs.map .int) ∨ d0 = .arr (xs.map .int)) ∧ xs.length ≤ 63) {P : O → List D → Prop} (hp : P (.ok (.frz (.bl true))) []) : r_law (startD N_law [] [d0]) (endP 0 P) := by
  rw [show r_law = (dSeq (dSet 1 (dFn S._law_store (daCons (dVar 0) daNil))) (dSeq (dAsg (dFnB S._law_world_drawn 1 daNil) (gT (gsCons (gN 2) (gsCons (gN 3) (gsCons (gN 4) (gsCons (gN 5) (gsCons (gN 6) gsNil))))))) (dSeq (dSet 7 (dFn S._law_signs (daCons (dVar 2) (daCons (dVar 3) (daCons (dVar 4) daNil))))) (dSeq (dIf (dOp dLtD (dCall dLen (daCons (dVarV 2) daNil)) (dC (.int 4))) (dSet 5 (dOp dAdd (dVar 5) (dFn S._law_cases (daCons (dVar 2) daNil)))) dPass) lwX)))) from rfl]
  obtain ⟨xs, hd, hl⟩ := hd
  simp [N_law, startD, endP, outs, dRet, dRetV, dsThen, dM1, dThen, daThen, dC, dLc, dItems, dVar, dVarV, still, D.items, D.isTxt, wipeD, SVd_f, SVd_o, SVd_b, SVm_f, SVm_o, SVm_b, SVp_f, SVp_o, SVp_b, dOp, dIn_s, dNotin_s, dEq_s, dEq_i, dEq_b, dNe_s, dNe_i, T_len, T_inj, dTT, lcTurn, gN, nbor, onB_bl, nborL, backD, T_subIn, dCall, daCons, daNil, dTup, dLst, dSeq, dIf, dPass, dSet, dDrop, dAsg, dOr, dAnd, dNot, dIfE, dIxV, dFn, dFnB, gT, gsCons, gsNil, SVd_f, SVd_o, SVd_b, dAdd_i, dSub_i, dInt_i, dLt_i, dGt_i, dGe_i, dLe_i, dEq_i, dNe_i]
  refine ⟨xs, rfl, by rcases hd with rfl | rfl <;> simp, hl, fun z hz => ?_⟩
  simp [startD, endP, outs, dRet, dRetV, dsThen, dM1, dThen, daThen, dC, dLc, dItems, dVar, dVarV, still, D.items, D.isTxt, wipeD, SVd_f, SVd_o, SVd_b, SVm_f, SVm_o, SVm_b, SVp_f, SVp_o, SVp_b, dOp, dIn_s, dNotin_s, dEq_s, dEq_i, dEq_b, dNe_s, dNe_i, T_len, T_inj, dTT, lcTurn, gN, nbor, onB_bl, nborL, backD, T_subIn, dCall, daCons, daNil, dTup, dLst, dSeq, dIf, dPass, dSet, dDrop, dAsg, dOr, dAnd, dNot, dIfE, dIxV, dFn, dFnB, gT, gsCons, gsNil, SVd_f, SVd_o, SVd_b, dAdd_i, dSub_i, dInt_i, dLt_i, dGt_i, dGe_i, dLe_i, dEq_i, dNe_i]
  refine ⟨z, 800000, rfl, rfl, hz.le (by decide), fun z' f a b c d T3 R hk g1 g2 h3 ok3 hR okR hz' => ?_⟩
  have hfl := fok_len hk
  simp [startD, endP, outs, dRet, dRetV, dsThen, dM1, dThen, daThen, dC, dLc, dItems, dVar, dVarV, still, D.items, D.isTxt, wipeD, SVd_f, SVd_o, SVd_b, SVm_f, SVm_o, SVm_b, SVp_f, SVp_o, SVp_b, dOp, dIn_s, dNotin_s, dEq_s, dEq_i, dEq_b, dNe_s, dNe_i, T_len, T_inj, dTT, lcTurn, gN, nbor, onB_bl, nborL, backD, T_subIn, dCall, daCons, daNil, dTup, dLst, dSeq, dIf, dPass, dSet, dDrop, dAsg, dOr, dAnd, dNot, dIfE, dIxV, dFn, dFnB, gT, gsCons, gsNil, SVd_f, SVd_o, SVd_b, dAdd_i, dSub_i, dInt_i, dLt_i, dGt_i, dGe_i, dLe_i, dEq_i, dNe_i, S._law_signs]
  refine ⟨f, a, b, c, d, ⟨rfl, ⟨rfl, rfl⟩, ⟨rfl, rfl⟩⟩, by omega, ?_⟩
  simp [startD, endP, outs, dRet, dRetV, dsThen, dM1, dThen, daThen, dC, dLc, dItems, dVar, dVarV, still, D.items, D.isTxt, wipeD, SVd_f, SVd_o, SVd_b, SVm_f, SVm_o, SVm_b, SVp_f, SVp_o, SVp_b, dOp, dIn_s, dNotin_s, dEq_s, dEq_i, dEq_b, dNe_s, dNe_i, T_len, T_inj, dTT, lcTurn, gN, nbor, onB_bl, nborL, backD, T_subIn, dCall, daCons, daNil, dTup, dLst, dSeq, dIf, dPass, dSet, dDrop, dAsg, dOr, dAnd, dNot, dIfE, dIxV, dFn, dFnB, gT, gsCons, gsNil, SVd_f, SVd_o, SVd_b, dAdd_i, dSub_i, dInt_i, dLt_i, dGt_i, dGe_i, dLe_i, dEq_i, dNe_i, dLen]
  have hT : T3 ≠ [] := by intro e; rw [e] at h3; simp at h3
  refine ⟨by unfold sizeLine; omega, ifP (fun h4 => ?_) (fun h4 => ?_)⟩
  · refine ⟨f, rfl, rfl, by omega, fok_six hk, fun L okL lenL => ?_⟩
    simp [startD, endP, outs, dRet, dRetV, dsThen, dM1, dThen, daThen, dC, dLc, dItems, dVar, dVarV, still, D.items, D.isTxt, wipeD, SVd_f, SVd_o, SVd_b, SVm_f, SVm_o, SVm_b, SVp_f, SVp_o, SVp_b, dOp, dIn_s, dNotin_s, dEq_s, dEq_i, dEq_b, dNe_s, dNe_i, T_len, T_inj, dTT, lcTurn, gN, nbor, onB_bl, nborL, backD, T_subIn, dCall, daCons, daNil, dTup, dLst, dSeq, dIf, dPass, dSet, dDrop, dAsg, dOr, dAnd, dNot, dIfE, dIxV, dFn, dFnB, gT, gsCons, gsNil, SVd_f, SVd_o, SVd_b, dAdd_i, dSub_i, dInt_i, dLt_i, dGt_i, dGe_i, dLe_i, dEq_i, dNe_i, dAdd]
    refine ⟨by unfold sizeLine; omega, ?_⟩
    have z := lw_x (d0 := d0) (z := z') (T3 := T3 ++ L) (s5 := .own (.lst ((T3 ++ L).map cD))) (.inr rfl) hk g1 g2 (by simp [hT]) (fun t ht => (List.mem_append.mp ht).elim (ok3 t) (okL t)) okR hp
    simpa using z
  · exact lw_x (d0 := d0) (z := z') (T3 := T3) (s5 := .frz (.lst (T3.map cD))) (.inl rfl) hk g1 g2 hT ok3 okR hp
theorem p_law : ∀ cs ds P, S.law cs ds P → cs.length = 0 ∧ cs.length + ds.length = 1 ∧ r_law (startD N_law cs ds) (endP 0 P) := by
  rintro _ _ P ⟨xs, rfl, hd, hl, hp⟩
  rcases hd with rfl | rfl
  · exact ⟨rfl, rfl, lw_go ⟨xs, .inl rfl, hl⟩ hp⟩
  · exact ⟨rfl, rfl, lw_go ⟨xs, .inr rfl, hl⟩ hp⟩
end K01

set_option Elab.async false
set_option linter.all false
set_option maxRecDepth 100000
set_option maxHeartbeats 0
namespace K01
open PySem PySem.Spec L2
set_option autoImplicit false
abbrev R : PySem.W.OpenRow := PySem.W.OpenLaw.row PySem.Challenge.rw_outweighed_k01_meetings_of_cases
def top (i : Nat) : Stmt := PySem.Challenge.pw_outweighed_k01_meetings_of_cases.main.body.getD i (.Pass ⟨0, 0, 0, 0⟩)
def nm0 : List Str := ["__name__", "__doc__", "__package__", "__loader__", "__spec__", "__annotations__", "__builtins__", "__file__", "__cached__", "OutweighedError", "BadLot", "BadNames"]
def nm1 : List Str := ["BadCase", "PlainCase", "BadLevel", "BadScale", "BadRow", "BadTag", "BadText", "BadPaper", "BadOrder", "BadPairs", "BadCount", "BadBox"]
def nm2 : List Str := ["BadLine", "WrongFields", "NoRow", "NoName", "NameTaken", "NotLearnt", "NothingThere", "EmptyList", "TooMany", "TooDeep", "NotFrame", "NotClosure"]
def nm3 : List Str := ["NotClosed", "NotSteady", "NotWord", "NotStrikable", "NotWithin", "RoundRule", "Disagrees", "BothSides", "Against", "FIELDS", "lot_on", "joined"]
def nm4 : List Str := ["shared", "without", "lot_place", "parts_of", "check_fields", "case_on", "case_place", "pairs_in", "check_case", "unlike_fields", "settled", "is_meeting"]
def nm5 : List Str := ["meetings", "_law_mix", "_law_store", "_law_take", "_law_pick", "_law_shuffled", "_law_fields", "_law_lot", "_law_bad_lot", "_law_bad_fields", "_law_common", "_law_less"]
def nm6 : List Str := ["_law_union", "_law_case_key", "_law_cases", "_law_case", "_law_bad_case", "_law_same", "_law_same_plain", "_law_is_lot", "_law_is_case", "_law_sign", "_law_shown", "_law_sign_in"]
def nm7 : List Str := ["_law_signs", "_law_of_signs", "_law_fits", "_law_thirds", "_law_any_case", "_law_world_drawn", "_law_rising", "_law_right_case", "_law_all_met", "_law_asked", "_law_refusal", "_law_round"]
def nm8 : List Str := ["law"]
def nms : List Str := nm0 ++ nm1 ++ nm2 ++ nm3 ++ nm4 ++ nm5 ++ nm6 ++ nm7 ++ nm8
def sn0 : List Hw.Seen := [.cls "OutweighedError" true true true true [(none, .type "ValueError"), (none, .type "Exception"), (none, .type "BaseException"), (none, .type "object")] (some (some (.builtin "ValueError.__new__"))) (some (true, some (some ("__init__", "OutweighedError.__init__", defArgs (inClass (top 1) 0), .stmts (defBody (inClass (top 1) 0)), defScope (inClass (top 1) 0), mainGlobals, [], .none, builtinsNs, some "OutweighedError.__init__")))),
  .cls "BadLot" true true true true [(some "OutweighedError", .none), (none, .type "ValueError"), (none, .type "Exception"), (none, .type "BaseException"), (none, .type "object")] (some (some (.builtin "ValueError.__new__"))) (some (true, none)),
  .cls "BadNames" true true true true [(some "OutweighedError", .none), (none, .type "ValueError"), (none, .type "Exception"), (none, .type "BaseException"), (none, .type "object")] (some (some (.builtin "ValueError.__new__"))) (some (true, none)),
  .cls "BadCase" true true true true [(some "OutweighedError", .none), (none, .type "ValueError"), (none, .type "Exception"), (none, .type "BaseException"), (none, .type "object")] (some (some (.builtin "ValueError.__new__"))) (some (true, none)),
  .cls "PlainCase" true true true true [(some "OutweighedError", .none), (none, .type "ValueError"), (none, .type "Exception"), (none, .type "BaseException"), (none, .type "object")] (some (some (.builtin "ValueError.__new__"))) (some (true, none)),
  .cls "BadLevel" true true true true [(some "OutweighedError", .none), (none, .type "ValueError"), (none, .type "Exception"), (none, .type "BaseException"), (none, .type "object")] (some (some (.builtin "ValueError.__new__"))) (some (true, none)),
  .cls "BadScale" true true true true [(some "OutweighedError", .none), (none, .type "ValueError"), (none, .type "Exception"), (none, .type "BaseException"), (none, .type "object")] (some (some (.builtin "ValueError.__new__"))) (some (true, none)),
  .cls "BadRow" true true true true [(some "OutweighedError", .none), (none, .type "ValueError"), (none, .type "Exception"), (none, .type "BaseException"), (none, .type "object")] (some (some (.builtin "ValueError.__new__"))) (some (true, none))]
def sn1 : List Hw.Seen := [.cls "BadTag" true true true true [(some "OutweighedError", .none), (none, .type "ValueError"), (none, .type "Exception"), (none, .type "BaseException"), (none, .type "object")] (some (some (.builtin "ValueError.__new__"))) (some (true, none)),
  .cls "BadText" true true true true [(some "OutweighedError", .none), (none, .type "ValueError"), (none, .type "Exception"), (none, .type "BaseException"), (none, .type "object")] (some (some (.builtin "ValueError.__new__"))) (some (true, none)),
  .cls "BadPaper" true true true true [(some "OutweighedError", .none), (none, .type "ValueError"), (none, .type "Exception"), (none, .type "BaseException"), (none, .type "object")] (some (some (.builtin "ValueError.__new__"))) (some (true, none)),
  .cls "BadOrder" true true true true [(some "OutweighedError", .none), (none, .type "ValueError"), (none, .type "Exception"), (none, .type "BaseException"), (none, .type "object")] (some (some (.builtin "ValueError.__new__"))) (some (true, none)),
  .cls "BadPairs" true true true true [(some "OutweighedError", .none), (none, .type "ValueError"), (none, .type "Exception"), (none, .type "BaseException"), (none, .type "object")] (some (some (.builtin "ValueError.__new__"))) (some (true, none)),
  .cls "BadCount" true true true true [(some "OutweighedError", .none), (none, .type "ValueError"), (none, .type "Exception"), (none, .type "BaseException"), (none, .type "object")] (some (some (.builtin "ValueError.__new__"))) (some (true, none)),
  .cls "BadBox" true true true true [(some "OutweighedError", .none), (none, .type "ValueError"), (none, .type "Exception"), (none, .type "BaseException"), (none, .type "object")] (some (some (.builtin "ValueError.__new__"))) (some (true, none)),
  .cls "BadLine" true true true true [(some "OutweighedError", .none), (none, .type "ValueError"), (none, .type "Exception"), (none, .type "BaseException"), (none, .type "object")] (some (some (.builtin "ValueError.__new__"))) (some (true, none))]
def sn2 : List Hw.Seen := [.cls "WrongFields" true true true true [(some "OutweighedError", .none), (none, .type "ValueError"), (none, .type "Exception"), (none, .type "BaseException"), (none, .type "object")] (some (some (.builtin "ValueError.__new__"))) (some (true, none)),
  .cls "NoRow" true true true true [(some "OutweighedError", .none), (none, .type "ValueError"), (none, .type "Exception"), (none, .type "BaseException"), (none, .type "object")] (some (some (.builtin "ValueError.__new__"))) (some (true, none)),
  .cls "NoName" true true true true [(some "OutweighedError", .none), (none, .type "ValueError"), (none, .type "Exception"), (none, .type "BaseException"), (none, .type "object")] (some (some (.builtin "ValueError.__new__"))) (some (true, none)),
  .cls "NameTaken" true true true true [(some "OutweighedError", .none), (none, .type "ValueError"), (none, .type "Exception"), (none, .type "BaseException"), (none, .type "object")] (some (some (.builtin "ValueError.__new__"))) (some (true, none)),
  .cls "NotLearnt" true true true true [(some "OutweighedError", .none), (none, .type "ValueError"), (none, .type "Exception"), (none, .type "BaseException"), (none, .type "object")] (some (some (.builtin "ValueError.__new__"))) (some (true, none)),
  .cls "NothingThere" true true true true [(some "OutweighedError", .none), (none, .type "ValueError"), (none, .type "Exception"), (none, .type "BaseException"), (none, .type "object")] (some (some (.builtin "ValueError.__new__"))) (some (true, none)),
  .cls "EmptyList" true true true true [(some "OutweighedError", .none), (none, .type "ValueError"), (none, .type "Exception"), (none, .type "BaseException"), (none, .type "object")] (some (some (.builtin "ValueError.__new__"))) (some (true, none)),
  .cls "TooMany" true true true true [(some "OutweighedError", .none), (none, .type "ValueError"), (none, .type "Exception"), (none, .type "BaseException"), (none, .type "object")] (some (some (.builtin "ValueError.__new__"))) (some (true, none))]
def sn3 : List Hw.Seen := [.cls "TooDeep" true true true true [(some "OutweighedError", .none), (none, .type "ValueError"), (none, .type "Exception"), (none, .type "BaseException"), (none, .type "object")] (some (some (.builtin "ValueError.__new__"))) (some (true, none)),
  .cls "NotFrame" true true true true [(some "OutweighedError", .none), (none, .type "ValueError"), (none, .type "Exception"), (none, .type "BaseException"), (none, .type "object")] (some (some (.builtin "ValueError.__new__"))) (some (true, none)),
  .cls "NotClosure" true true true true [(some "OutweighedError", .none), (none, .type "ValueError"), (none, .type "Exception"), (none, .type "BaseException"), (none, .type "object")] (some (some (.builtin "ValueError.__new__"))) (some (true, none)),
  .cls "NotClosed" true true true true [(some "OutweighedError", .none), (none, .type "ValueError"), (none, .type "Exception"), (none, .type "BaseException"), (none, .type "object")] (some (some (.builtin "ValueError.__new__"))) (some (true, none)),
  .cls "NotSteady" true true true true [(some "OutweighedError", .none), (none, .type "ValueError"), (none, .type "Exception"), (none, .type "BaseException"), (none, .type "object")] (some (some (.builtin "ValueError.__new__"))) (some (true, none)),
  .cls "NotWord" true true true true [(some "OutweighedError", .none), (none, .type "ValueError"), (none, .type "Exception"), (none, .type "BaseException"), (none, .type "object")] (some (some (.builtin "ValueError.__new__"))) (some (true, none)),
  .cls "NotStrikable" true true true true [(some "OutweighedError", .none), (none, .type "ValueError"), (none, .type "Exception"), (none, .type "BaseException"), (none, .type "object")] (some (some (.builtin "ValueError.__new__"))) (some (true, none)),
  .cls "NotWithin" true true true true [(some "OutweighedError", .none), (none, .type "ValueError"), (none, .type "Exception"), (none, .type "BaseException"), (none, .type "object")] (some (some (.builtin "ValueError.__new__"))) (some (true, none))]
def sn4 : List Hw.Seen := [.cls "RoundRule" true true true true [(some "OutweighedError", .none), (none, .type "ValueError"), (none, .type "Exception"), (none, .type "BaseException"), (none, .type "object")] (some (some (.builtin "ValueError.__new__"))) (some (true, none)),
  .cls "Disagrees" true true true true [(some "OutweighedError", .none), (none, .type "ValueError"), (none, .type "Exception"), (none, .type "BaseException"), (none, .type "object")] (some (some (.builtin "ValueError.__new__"))) (some (true, none)),
  .cls "BothSides" true true true true [(some "OutweighedError", .none), (none, .type "ValueError"), (none, .type "Exception"), (none, .type "BaseException"), (none, .type "object")] (some (some (.builtin "ValueError.__new__"))) (some (true, none)),
  .cls "Against" true true true true [(some "OutweighedError", .none), (none, .type "ValueError"), (none, .type "Exception"), (none, .type "BaseException"), (none, .type "object")] (some (some (.builtin "ValueError.__new__"))) (some (true, none)),
  .str "abcdef",
  .fn ("lot_on", "lot_on", defArgs (top 39), .stmts (defBody (top 39)), defScope (top 39), mainGlobals, [], .none, builtinsNs, some "lot_on"),
  .fn ("joined", "joined", defArgs (top 40), .stmts (defBody (top 40)), defScope (top 40), mainGlobals, [], .none, builtinsNs, some "joined"),
  .fn ("shared", "shared", defArgs (top 41), .stmts (defBody (top 41)), defScope (top 41), mainGlobals, [], .none, builtinsNs, some "shared")]
def sn5 : List Hw.Seen := [.fn ("without", "without", defArgs (top 42), .stmts (defBody (top 42)), defScope (top 42), mainGlobals, [], .none, builtinsNs, some "without"),
  .fn ("lot_place", "lot_place", defArgs (top 43), .stmts (defBody (top 43)), defScope (top 43), mainGlobals, [], .none, builtinsNs, some "lot_place"),
  .fn ("parts_of", "parts_of", defArgs (top 44), .stmts (defBody (top 44)), defScope (top 44), mainGlobals, [], .none, builtinsNs, some "parts_of"),
  .fn ("check_fields", "check_fields", defArgs (top 45), .stmts (defBody (top 45)), defScope (top 45), mainGlobals, [], .none, builtinsNs, some "check_fields"),
  .fn ("case_on", "case_on", defArgs (top 47), .stmts (defBody (top 47)), defScope (top 47), mainGlobals, [], .none, builtinsNs, some "case_on"),
  .fn ("case_place", "case_place", defArgs (top 48), .stmts (defBody (top 48)), defScope (top 48), mainGlobals, [], .none, builtinsNs, some "case_place"),
  .fn ("pairs_in", "pairs_in", defArgs (top 49), .stmts (defBody (top 49)), defScope (top 49), mainGlobals, [], .none, builtinsNs, some "pairs_in"),
  .fn ("check_case", "check_case", defArgs (top 50), .stmts (defBody (top 50)), defScope (top 50), mainGlobals, [], .none, builtinsNs, some "check_case")]
def sn6 : List Hw.Seen := [.fn ("unlike_fields", "unlike_fields", defArgs (top 51), .stmts (defBody (top 51)), defScope (top 51), mainGlobals, [], .none, builtinsNs, some "unlike_fields"),
  .fn ("settled", "settled", defArgs (top 52), .stmts (defBody (top 52)), defScope (top 52), mainGlobals, [], .none, builtinsNs, some "settled"),
  .fn ("is_meeting", "is_meeting", defArgs (top 53), .stmts (defBody (top 53)), defScope (top 53), mainGlobals, [], .none, builtinsNs, some "is_meeting"),
  .fn ("meetings", "meetings", defArgs (top 54), .stmts (defBody (top 54)), defScope (top 54), mainGlobals, [], .none, builtinsNs, some "meetings"),
  .fn ("_law_mix", "_law_mix", defArgs (top 56), .stmts (defBody (top 56)), defScope (top 56), mainGlobals, [], .none, builtinsNs, some "_law_mix"),
  .fn ("_law_store", "_law_store", defArgs (top 57), .stmts (defBody (top 57)), defScope (top 57), mainGlobals, [], .none, builtinsNs, some "_law_store"),
  .fn ("_law_take", "_law_take", defArgs (top 58), .stmts (defBody (top 58)), defScope (top 58), mainGlobals, [], .none, builtinsNs, some "_law_take"),
  .fn ("_law_pick", "_law_pick", defArgs (top 59), .stmts (defBody (top 59)), defScope (top 59), mainGlobals, [], .none, builtinsNs, some "_law_pick")]
def sn7 : List Hw.Seen := [.fn ("_law_shuffled", "_law_shuffled", defArgs (top 60), .stmts (defBody (top 60)), defScope (top 60), mainGlobals, [], .none, builtinsNs, some "_law_shuffled"),
  .fn ("_law_fields", "_law_fields", defArgs (top 61), .stmts (defBody (top 61)), defScope (top 61), mainGlobals, [], .none, builtinsNs, some "_law_fields"),
  .fn ("_law_lot", "_law_lot", defArgs (top 62), .stmts (defBody (top 62)), defScope (top 62), mainGlobals, [], .none, builtinsNs, some "_law_lot"),
  .fn ("_law_bad_lot", "_law_bad_lot", defArgs (top 63), .stmts (defBody (top 63)), defScope (top 63), mainGlobals, [], .none, builtinsNs, some "_law_bad_lot"),
  .fn ("_law_bad_fields", "_law_bad_fields", defArgs (top 64), .stmts (defBody (top 64)), defScope (top 64), mainGlobals, [], .none, builtinsNs, some "_law_bad_fields"),
  .fn ("_law_common", "_law_common", defArgs (top 65), .stmts (defBody (top 65)), defScope (top 65), mainGlobals, [], .none, builtinsNs, some "_law_common"),
  .fn ("_law_less", "_law_less", defArgs (top 66), .stmts (defBody (top 66)), defScope (top 66), mainGlobals, [], .none, builtinsNs, some "_law_less"),
  .fn ("_law_union", "_law_union", defArgs (top 67), .stmts (defBody (top 67)), defScope (top 67), mainGlobals, [], .none, builtinsNs, some "_law_union")]
def sn8 : List Hw.Seen := [.fn ("_law_case_key", "_law_case_key", defArgs (top 68), .stmts (defBody (top 68)), defScope (top 68), mainGlobals, [], .none, builtinsNs, some "_law_case_key"),
  .fn ("_law_cases", "_law_cases", defArgs (top 69), .stmts (defBody (top 69)), defScope (top 69), mainGlobals, [], .none, builtinsNs, some "_law_cases"),
  .fn ("_law_case", "_law_case", defArgs (top 70), .stmts (defBody (top 70)), defScope (top 70), mainGlobals, [], .none, builtinsNs, some "_law_case"),
  .fn ("_law_bad_case", "_law_bad_case", defArgs (top 71), .stmts (defBody (top 71)), defScope (top 71), mainGlobals, [], .none, builtinsNs, some "_law_bad_case"),
  .fn ("_law_same", "_law_same", defArgs (top 72), .stmts (defBody (top 72)), defScope (top 72), mainGlobals, [], .none, builtinsNs, some "_law_same"),
  .fn ("_law_same_plain", "_law_same_plain", defArgs (top 73), .stmts (defBody (top 73)), defScope (top 73), mainGlobals, [], .none, builtinsNs, some "_law_same_plain"),
  .fn ("_law_is_lot", "_law_is_lot", defArgs (top 74), .stmts (defBody (top 74)), defScope (top 74), mainGlobals, [], .none, builtinsNs, some "_law_is_lot"),
  .fn ("_law_is_case", "_law_is_case", defArgs (top 75), .stmts (defBody (top 75)), defScope (top 75), mainGlobals, [], .none, builtinsNs, some "_law_is_case")]
def sn9 : List Hw.Seen := [.fn ("_law_sign", "_law_sign", defArgs (top 76), .stmts (defBody (top 76)), defScope (top 76), mainGlobals, [], .none, builtinsNs, some "_law_sign"),
  .fn ("_law_shown", "_law_shown", defArgs (top 77), .stmts (defBody (top 77)), defScope (top 77), mainGlobals, [], .none, builtinsNs, some "_law_shown"),
  .fn ("_law_sign_in", "_law_sign_in", defArgs (top 78), .stmts (defBody (top 78)), defScope (top 78), mainGlobals, [], .none, builtinsNs, some "_law_sign_in"),
  .fn ("_law_signs", "_law_signs", defArgs (top 79), .stmts (defBody (top 79)), defScope (top 79), mainGlobals, [], .none, builtinsNs, some "_law_signs"),
  .fn ("_law_of_signs", "_law_of_signs", defArgs (top 80), .stmts (defBody (top 80)), defScope (top 80), mainGlobals, [], .none, builtinsNs, some "_law_of_signs"),
  .fn ("_law_fits", "_law_fits", defArgs (top 81), .stmts (defBody (top 81)), defScope (top 81), mainGlobals, [], .none, builtinsNs, some "_law_fits"),
  .fn ("_law_thirds", "_law_thirds", defArgs (top 82), .stmts (defBody (top 82)), defScope (top 82), mainGlobals, [], .none, builtinsNs, some "_law_thirds"),
  .fn ("_law_any_case", "_law_any_case", defArgs (top 83), .stmts (defBody (top 83)), defScope (top 83), mainGlobals, [], .none, builtinsNs, some "_law_any_case")]
def sn10 : List Hw.Seen := [.fn ("_law_world_drawn", "_law_world_drawn", defArgs (top 84), .stmts (defBody (top 84)), defScope (top 84), mainGlobals, [], .none, builtinsNs, some "_law_world_drawn"),
  .fn ("_law_rising", "_law_rising", defArgs (top 85), .stmts (defBody (top 85)), defScope (top 85), mainGlobals, [], .none, builtinsNs, some "_law_rising"),
  .fn ("_law_right_case", "_law_right_case", defArgs (top 86), .stmts (defBody (top 86)), defScope (top 86), mainGlobals, [], .none, builtinsNs, some "_law_right_case"),
  .fn ("_law_all_met", "_law_all_met", defArgs (top 87), .stmts (defBody (top 87)), defScope (top 87), mainGlobals, [], .none, builtinsNs, some "_law_all_met"),
  .fn ("_law_asked", "_law_asked", defArgs (top 88), .stmts (defBody (top 88)), defScope (top 88), mainGlobals, [], .none, builtinsNs, some "_law_asked"),
  .fn ("_law_refusal", "_law_refusal", defArgs (top 89), .stmts (defBody (top 89)), defScope (top 89), mainGlobals, [], .none, builtinsNs, some "_law_refusal"),
  .fn ("_law_round", "_law_round", defArgs (top 90), .stmts (defBody (top 90)), defScope (top 90), mainGlobals, [], .none, builtinsNs, some "_law_round"),
  .fn ("law", "law", defArgs (top 91), .stmts (defBody (top 91)), defScope (top 91), mainGlobals, [], .none, builtinsNs, some "law")]
def sns : List Hw.Seen := sn0 ++ sn1 ++ sn2 ++ sn3 ++ sn4 ++ sn5 ++ sn6 ++ sn7 ++ sn8 ++ sn9 ++ sn10
def lit : Hw.Al := (some (nms.map some), some sns)
theorem run2 (w : World) : ∀ os : OsState, (HandSHeadRun.endF (HandSHeadRun.stepQ (HandSHeadRun.denQ HandSHeadRun.tabQ) R.prog w) 20000 R.prog w os).map (fun s => Hw.obsG 9 (HandSHeadRun.getT s)) = some lit := by
  intro os
  kernel_rfl
end K01

set_option Elab.async false
set_option linter.all false
set_option maxRecDepth 100000
set_option maxHeartbeats 0
namespace K01
open PySem PySem.Spec L2 Ow
set_option autoImplicit false
abbrev s__law_case_key : Stmt := top 68
abbrev s__law_sign_in : Stmt := top 78
abbrev s__law_fits : Stmt := top 81
abbrev s__law_common : Stmt := top 65
abbrev s__law_is_lot : Stmt := top 74
abbrev s__law_is_case : Stmt := top 75
abbrev s__law_all_met : Stmt := top 87
abbrev s__law_cases : Stmt := top 69
abbrev s_lot_on : Stmt := top 39
abbrev s_shared : Stmt := top 41
abbrev s_case_on : Stmt := top 47
abbrev s_check_fields : Stmt := top 45
abbrev s_check_case : Stmt := top 50
abbrev s_joined : Stmt := top 40
abbrev s_unlike_fields : Stmt := top 51
abbrev s_without : Stmt := top 42
abbrev s_settled : Stmt := top 52
abbrev s_is_meeting : Stmt := top 53
abbrev s_lot_place : Stmt := top 43
abbrev s_case_place : Stmt := top 48
abbrev s_parts_of : Stmt := top 44
abbrev s_pairs_in : Stmt := top 49
abbrev s_meetings : Stmt := top 54
abbrev s__law_asked : Stmt := top 88
abbrev s__law_rising : Stmt := top 85
abbrev s__law_right_case : Stmt := top 86
abbrev s__law_refusal : Stmt := top 89
abbrev s__law_same_plain : Stmt := top 73
abbrev s__law_same : Stmt := top 72
abbrev s__law_sign : Stmt := top 76
abbrev s__law_shown : Stmt := top 77
abbrev s__law_signs : Stmt := top 79
abbrev s__law_round : Stmt := top 90
abbrev s__law_mix : Stmt := top 56
abbrev s__law_store : Stmt := top 57
abbrev s__law_less : Stmt := top 66
abbrev s__law_take : Stmt := top 58
abbrev s__law_pick : Stmt := top 59
abbrev s__law_lot : Stmt := top 62
abbrev s__law_bad_lot : Stmt := top 63
abbrev s__law_shuffled : Stmt := top 60
abbrev s__law_case : Stmt := top 70
abbrev s__law_union : Stmt := top 67
abbrev s__law_bad_case : Stmt := top 71
abbrev s__law_any_case : Stmt := top 83
abbrev s__law_bad_fields : Stmt := top 64
abbrev s__law_fields : Stmt := top 61
abbrev s__law_of_signs : Stmt := top 80
abbrev s__law_thirds : Stmt := top 82
abbrev s__law_world_drawn : Stmt := top 84
abbrev s_law : Stmt := top 91
structure Glob (mg : Str → Option Value) : Prop where
  FIELDS : ∃ t, mg "FIELDS" = some (.str "abcdef" t)
  ValueError : mg "ValueError" = none
  bool : mg "bool" = none
  dict : mg "dict" = none
  enumerate : mg "enumerate" = none
  int : mg "int" = none
  isinstance : mg "isinstance" = none
  len : mg "len" = none
  list : mg "list" = none
  range : mg "range" = none
  sorted : mg "sorted" = none
  str : mg "str" = none
  tuple : mg "tuple" = none
theorem w__law_case_key {P0 : Program} {w : World} {K : PySem.W.Frag} {mg : Str → Option Value} {base : Heap} {f fI : Addr} (G : Glob mg) (ER : ErrsOk K mg ers errSub fI)
    (cdv : Value) (A : Around) (outer : List PySem.Env) (s : Shared) (H : Hp) (E : XK) (C : Pr) (J : JX (cxOf (L2.CX P0 w) P0 w K mg base N__law_case_key "_law_case_key" (defScope s__law_case_key) f cdv A outer s H E) C 0) :
    PSs (cxOf (L2.CX P0 w) P0 w K mg base N__law_case_key "_law_case_key" (defScope s__law_case_key) f cdv A outer s H E) (defBody s__law_case_key) (lS C r__law_case_key) := by
  have nd : N__law_case_key.Nodup := by decide +kernel
  exact (js_one (js_ret (je_tup (ja_cons (je_cb J.jc c_len (by rfl) G.len (by rfl) (ja_one (g := daNil) (jv_of (je_ixV J.jc (pv 0) je_int)))) (ja_cons (je_ixV J.jc (pv 0) je_int) (ja_cons (je_cb J.jc c_len (by rfl) G.len (by rfl) (ja_one (g := daNil) (jv_of (je_ixV J.jc (pv 0) je_int)))) (ja_cons (je_ixV J.jc (pv 0) je_int) ja_nil)))))))
theorem w__law_sign_in {P0 : Program} {w : World} {K : PySem.W.Frag} {mg : Str → Option Value} {base : Heap} {f fI : Addr} (G : Glob mg) (ER : ErrsOk K mg ers errSub fI)
    (cdv : Value) (A : Around) (outer : List PySem.Env) (s : Shared) (H : Hp) (E : XK) (C : Pr) (J : JX (cxOf (L2.CX P0 w) P0 w K mg base N__law_sign_in "_law_sign_in" (defScope s__law_sign_in) f cdv A outer s H E) C 0) :
    PSs (cxOf (L2.CX P0 w) P0 w K mg base N__law_sign_in "_law_sign_in" (defScope s__law_sign_in) f cdv A outer s H E) (defBody s__law_sign_in) (lS C r__law_sign_in) := by
  have nd : N__law_sign_in.Nodup := by decide +kernel
  exact (js_cons (js_if (jt_cmp J.jc (o_in J.u65) (je_var (pv 1)) (jv_of (je_ixV J.jc (pv 0) je_int)) (by rfl)) (js_one (js_ret je_int)) js_nil) (js_one (js_ret (je_ifE (jt_cmp J.jc (o_in J.u65) (je_var (pv 1)) (jv_of (je_ixV J.jc (pv 0) je_int)) (by rfl)) je_int je_int))))
theorem w__law_fits {P0 : Program} {w : World} {K : PySem.W.Frag} {mg : Str → Option Value} {base : Heap} {f fI : Addr} (G : Glob mg) (ER : ErrsOk K mg ers errSub fI) (f__law_sign_in : FnI P0 w K mg base 1 "_law_sign_in" ["case", "field"] S._law_sign_in)
    (cdv : Value) (A : Around) (outer : List PySem.Env) (s : Shared) (H : Hp) (E : XK) (C : Pr) (J : JX (cxOf (L2.CX P0 w) P0 w K mg base N__law_fits "_law_fits" (defScope s__law_fits) f cdv A outer s H E) C 1) :
    PSs (cxOf (L2.CX P0 w) P0 w K mg base N__law_fits "_law_fits" (defScope s__law_fits) f cdv A outer s H E) (defBody s__law_fits) (lS C r__law_fits) := by
  have nd : N__law_fits.Nodup := by decide +kernel
  exact (js_cons (js_for J.po J.calm (ji_rng1 (by rfl) G.range (ja_cons (je_cb J.jc c_len (by rfl) G.len (by rfl) (ja_one (g := daNil) (jv_var (pv 0)))) ja_nil)) (jg_name nd rfl (by first | exact .inl rfl | exact .inr rfl)) (js_one (js_if (jt_cmp J.jc (o_notin J.u65) (jf J.jc f__law_sign_in (J.room.mono (by decide)) (by rfl) (ja_cons (je_var (pv 2)) (ja_cons (je_ixV J.jc (pv 0) (je_var (pv 3))) ja_nil))) (jv_of (je_ixV J.jc (pv 1) (je_var (pv 3)))) (by rfl)) (js_one (js_ret je_bl)) js_nil))) (js_one (js_ret je_bl)))
theorem w__law_common {P0 : Program} {w : World} {K : PySem.W.Frag} {mg : Str → Option Value} {base : Heap} {f fI : Addr} (G : Glob mg) (ER : ErrsOk K mg ers errSub fI)
    (cdv : Value) (A : Around) (outer : List PySem.Env) (s : Shared) (H : Hp) (E : XK) (C : Pr) (J : JX (cxOf (L2.CX P0 w) P0 w K mg base N__law_common "_law_common" (defScope s__law_common) f cdv A outer s H E) C 0) :
    PSs (cxOf (L2.CX P0 w) P0 w K mg base N__law_common "_law_common" (defScope s__law_common) f cdv A outer s H E) (defBody s__law_common) (lS C r__law_common) := by
  have nd : N__law_common.Nodup := by decide +kernel
  exact (js_one (js_ret (je_join J.jc je_str (jv_of (je_lc J.jc J.calm nd (ji_val J.jc (je_var (pv 0))) (L2.blkOk_by (own := [("field", 2)]) (by kernel_rfl)) (by decide) (fun _ _ _ _ _ => (jg_name nd rfl (by first | exact .inl rfl | exact .inr rfl) (by first | exact .inl rfl | exact .inr rfl))) (fun _ _ _ _ _ => (jts_one (jt_cmp (jc_blk J.jc) (o_in J.u65) (je_var (pv 2)) (jv_var (pv 1)) (by rfl)))) (fun _ _ _ _ _ => (je_var (pv 2))))))))
theorem w__law_is_lot {P0 : Program} {w : World} {K : PySem.W.Frag} {mg : Str → Option Value} {base : Heap} {f fI : Addr} (G : Glob mg) (ER : ErrsOk K mg ers errSub fI)
    (cdv : Value) (A : Around) (outer : List PySem.Env) (s : Shared) (H : Hp) (E : XK) (C : Pr) (J : JX (cxOf (L2.CX P0 w) P0 w K mg base N__law_is_lot "_law_is_lot" (defScope s__law_is_lot) f cdv A outer s H E) C 0) :
    PSs (cxOf (L2.CX P0 w) P0 w K mg base N__law_is_lot "_law_is_lot" (defScope s__law_is_lot) f cdv A outer s H E) (defBody s__law_is_lot) (lS C r__law_is_lot) := by
  have nd : N__law_is_lot.Nodup := by decide +kernel
  exact (js_one (js_ret (je_and (je_isi (T := .str) J.jc (by rfl) G.isinstance (jv_var (pv 1)) (pe_bltn (by rfl) G.str (by rfl) (by rfl))) (je_one (je_cmp J.jc (o_eq J.u64) (je_var (pv 1)) (jv_of (je_join J.jc je_str (jv_of (je_lc J.jc J.calm nd (ji_val J.jc (je_var (pv 0))) (L2.blkOk_by (own := [("field", 2)]) (by kernel_rfl)) (by decide) (fun _ _ _ _ _ => (jg_name nd rfl (by first | exact .inl rfl | exact .inr rfl) (by first | exact .inl rfl | exact .inr rfl))) (fun _ _ _ _ _ => (jts_one (jt_cmp (jc_blk J.jc) (o_in J.u65) (je_var (pv 2)) (jv_var (pv 1)) (by rfl)))) (fun _ _ _ _ _ => (je_var (pv 2))))))) (by rfl))))))
theorem w__law_is_case {P0 : Program} {w : World} {K : PySem.W.Frag} {mg : Str → Option Value} {base : Heap} {f fI : Addr} (G : Glob mg) (ER : ErrsOk K mg ers errSub fI) (f__law_common : FnI P0 w K mg base 1 "_law_common" ["one", "two"] S._law_common) (f__law_is_lot : FnI P0 w K mg base 1 "_law_is_lot" ["fields", "thing"] S._law_is_lot)
    (cdv : Value) (A : Around) (outer : List PySem.Env) (s : Shared) (H : Hp) (E : XK) (C : Pr) (J : JX (cxOf (L2.CX P0 w) P0 w K mg base N__law_is_case "_law_is_case" (defScope s__law_is_case) f cdv A outer s H E) C 1) :
    PSs (cxOf (L2.CX P0 w) P0 w K mg base N__law_is_case "_law_is_case" (defScope s__law_is_case) f cdv A outer s H E) (defBody s__law_is_case) (lS C r__law_is_case) := by
  have nd : N__law_is_case.Nodup := by decide +kernel
  exact (js_cons (js_if (jt_pw (jw_or (jt_not (jt_val (je_isi (T := .tup) J.jc (by rfl) G.isinstance (jv_var (pv 1)) (pe_bltn (by rfl) G.tuple (by rfl) (by rfl))))) (jw_or1 (jt_cmp J.jc (o_ne J.u64) (je_cb J.jc c_len (by rfl) G.len (by rfl) (ja_one (g := daNil) (jv_var (pv 1)))) (jv_of je_int) (by rfl))))) (js_one (js_ret je_bl)) js_nil) (js_cons (js_if (jt_pw (jw_or (jt_not (jt_val (jf J.jc f__law_is_lot (J.room.mono (by decide)) (by rfl) (ja_cons (je_var (pv 0)) (ja_cons (je_ixV J.jc (pv 1) je_int) ja_nil))))) (jw_or1 (jt_not (jt_val (jf J.jc f__law_is_lot (J.room.mono (by decide)) (by rfl) (ja_cons (je_var (pv 0)) (ja_cons (je_ixV J.jc (pv 1) je_int) ja_nil)))))))) (js_one (js_ret je_bl)) js_nil) (js_one (js_ret (je_cmp J.jc (o_eq J.u64) (jf J.jc f__law_common (J.room.mono (by decide)) (by rfl) (ja_cons (je_ixV J.jc (pv 1) je_int) (ja_cons (je_ixV J.jc (pv 1) je_int) ja_nil))) (jv_of je_str) (by rfl))))))
theorem w__law_all_met {P0 : Program} {w : World} {K : PySem.W.Frag} {mg : Str → Option Value} {base : Heap} {f fI : Addr} (G : Glob mg) (ER : ErrsOk K mg ers errSub fI) (f__law_case_key : FnI P0 w K mg base 1 "_law_case_key" ["case"] S._law_case_key) (f__law_fits : FnI P0 w K mg base 2 "_law_fits" ["fields", "signs", "case"] S._law_fits) (f__law_is_case : FnI P0 w K mg base 2 "_law_is_case" ["fields", "thing"] S._law_is_case)
    (cdv : Value) (A : Around) (outer : List PySem.Env) (s : Shared) (H : Hp) (E : XK) (C : Pr) (J : JX (cxOf (L2.CX P0 w) P0 w K mg base N__law_all_met "_law_all_met" (defScope s__law_all_met) f cdv A outer s H E) C 2) :
    PSs (cxOf (L2.CX P0 w) P0 w K mg base N__law_all_met "_law_all_met" (defScope s__law_all_met) f cdv A outer s H E) (defBody s__law_all_met) (lS C r__law_all_met) := by
  have nd : N__law_all_met.Nodup := by decide +kernel
  exact (js_cons (js_set (i := 3) nd rfl (by first | exact .inl rfl | exact .inr rfl) je_int) (js_cons (js_for J.po J.calm (ji_val J.jc (je_var (pv 1))) (jg_name nd rfl (by first | exact .inl rfl | exact .inr rfl)) (js_one (js_set (i := 3) nd rfl (by first | exact .inl rfl | exact .inr rfl) (je_op J.jc o_mul2 (je_var (pv 3)) (jv_of (je_cb J.jc c_len (by rfl) G.len (by rfl) (ja_one (g := daNil) (jv_var (pv 4))))))))) (js_cons (js_if (jt_pw (jw_or (jt_not (jt_val (je_isi (T := .lst) J.jc (by rfl) G.isinstance (jv_var (pv 2)) (pe_bltn (by rfl) G.list (by rfl) (by rfl))))) (jw_or1 (jt_cmp J.jc (o_ne J.u64) (je_cb J.jc c_len (by rfl) G.len (by rfl) (ja_one (g := daNil) (jv_var (pv 2)))) (jv_var (pv 3)) (by rfl))))) (js_one (js_ret je_bl)) js_nil) (js_cons (js_set (i := 5) nd rfl (by first | exact .inl rfl | exact .inr rfl) (je_tup ja_nil)) (js_cons (js_for J.po J.calm (ji_val J.jc (je_var (pv 2))) (jg_name nd rfl (by first | exact .inl rfl | exact .inr rfl)) (js_cons (js_if (jt_pw (jw_or (jt_not (jt_val (jf J.jc f__law_is_case (J.room.mono (by decide)) (by rfl) (ja_cons (je_var (pv 0)) (ja_cons (je_var (pv 6)) ja_nil))))) (jw_or1 (jt_not (jt_val (jf J.jc f__law_fits (J.room.mono (by decide)) (by rfl) (ja_cons (je_var (pv 0)) (ja_cons (je_var (pv 1)) (ja_cons (je_var (pv 6)) ja_nil))))))))) (js_one (js_ret je_bl)) js_nil) (js_cons (js_if (jt_pw (jw_and (jt_cmp J.jc (o_ne J.u64) (je_var (pv 5)) (jv_of (je_tup ja_nil)) (by rfl)) (jw_and1 (jt_cmp J.jc (o_leD J.u64) (jf J.jc f__law_case_key (J.room.mono (by decide)) (by rfl) (ja_cons (je_var (pv 6)) ja_nil)) (jv_of (jf J.jc f__law_case_key (J.room.mono (by decide)) (by rfl) (ja_cons (je_var (pv 5)) ja_nil))) (by rfl))))) (js_one (js_ret je_bl)) js_nil) (js_one (js_set (i := 5) nd rfl (by first | exact .inl rfl | exact .inr rfl) (je_var (pv 6))))))) (js_one (js_ret je_bl)))))))
theorem w__law_cases {P0 : Program} {w : World} {K : PySem.W.Frag} {mg : Str → Option Value} {base : Heap} {f fI : Addr} (G : Glob mg) (ER : ErrsOk K mg ers errSub fI) (f__law_case_key : FnI P0 w K mg base 1 "_law_case_key" ["case"] S._law_case_key)
    (cdv : Value) (A : Around) (outer : List PySem.Env) (s : Shared) (H : Hp) (E : XK) (C : Pr) (J : JX (cxOf (L2.CX P0 w) P0 w K mg base N__law_cases "_law_cases" (defScope s__law_cases) f cdv A outer s H E) C 3) :
    PSs (cxOf (L2.CX P0 w) P0 w K mg base N__law_cases "_law_cases" (defScope s__law_cases) f cdv A outer s H E) (defBody s__law_cases) (lS C r__law_cases) := by
  have nd : N__law_cases.Nodup := by decide +kernel
  exact (js_cons (js_set (i := 1) nd rfl (by first | exact .inl rfl | exact .inr rfl) (je_lst (ja_cons (je_tup (ja_cons je_str (ja_cons je_str ja_nil))) ja_nil))) (js_cons (js_for J.po J.calm (ji_val J.jc (je_var (pv 0))) (jg_name nd rfl (by first | exact .inl rfl | exact .inr rfl)) (js_cons (js_set (i := 3) nd rfl (by first | exact .inl rfl | exact .inr rfl) (je_lst ja_nil)) (js_cons (js_for J.po J.calm (ji_val J.jc (je_var (pv 1))) (jg_tup (n := 2) J.jc J.calm (jgs_cons (jg_name nd rfl (by first | exact .inl rfl | exact .inr rfl)) (jgs_cons (jg_name nd rfl (by first | exact .inl rfl | exact .inr rfl)) jgs_nil)) (gs_len gN_ex (gs_len gN_ex gs_len0))) (js_cons (js_expr (je_mut J.jc PySem.F.slot_list_append PySem.F.type_list_append m_append (pv 3) (ja_cons (je_tup (ja_cons (je_var (pv 4)) (ja_cons (je_var (pv 5)) ja_nil))) ja_nil))) (js_cons (js_expr (je_mut J.jc PySem.F.slot_list_append PySem.F.type_list_append m_append (pv 3) (ja_cons (je_tup (ja_cons (je_op J.jc o_add (je_var (pv 4)) (jv_var (pv 2))) (ja_cons (je_var (pv 5)) ja_nil))) ja_nil))) (js_one (js_expr (je_mut J.jc PySem.F.slot_list_append PySem.F.type_list_append m_append (pv 3) (ja_cons (je_tup (ja_cons (je_var (pv 4)) (ja_cons (je_op J.jc o_add (je_var (pv 5)) (jv_var (pv 2))) ja_nil))) ja_nil))))))) (js_one (js_set (i := 1) nd rfl (by first | exact .inl rfl | exact .inr rfl) (je_cty J.jc (c_list J.calm) (by rfl) G.list (by rfl) (ja_one (g := daNil) (jv_var (pv 3))))))))) (js_one (js_ret (je_sortK J.jc f__law_case_key (J.room.mono (by decide)) (by rfl) (by rfl) G.sorted (ja_one (g := daNil) (jv_var (pv 1))))))))
theorem w_lot_on {P0 : Program} {w : World} {K : PySem.W.Frag} {mg : Str → Option Value} {base : Heap} {f fI : Addr} (G : Glob mg) (ER : ErrsOk K mg ers errSub fI)
    (cdv : Value) (A : Around) (outer : List PySem.Env) (s : Shared) (H : Hp) (E : XK) (C : Pr) (J : JX (cxOf (L2.CX P0 w) P0 w K mg base N_lot_on "lot_on" (defScope s_lot_on) f cdv A outer s H E) C 0) :
    PSs (cxOf (L2.CX P0 w) P0 w K mg base N_lot_on "lot_on" (defScope s_lot_on) f cdv A outer s H E) (defBody s_lot_on) (lS C r_lot_on) := by
  have nd : N_lot_on.Nodup := by decide +kernel
  exact (js_cons (js_if (jt_pw (jw_or (jt_not (jt_val (je_isi (T := .str) J.jc (by rfl) G.isinstance (jv_var (pv 1)) (pe_bltn (by rfl) G.str (by rfl) (by rfl))))) (jw_or1 (jt_cmp J.jc o_gt (je_cb J.jc c_len (by rfl) G.len (by rfl) (ja_one (g := daNil) (jv_var (pv 1)))) (jv_of (je_cb J.jc c_len (by rfl) G.len (by rfl) (ja_one (g := daNil) (jv_var (pv 0))))) (by rfl))))) (js_one (js_ret je_bl)) js_nil) (js_one (js_ret (je_cmp J.jc (o_eq J.u64) (je_join J.jc je_str (jv_of (je_lc J.jc J.calm nd (ji_val J.jc (je_var (pv 0))) (L2.blkOk_by (own := [("field", 2)]) (by kernel_rfl)) (by decide) (fun _ _ _ _ _ => (jg_name nd rfl (by first | exact .inl rfl | exact .inr rfl) (by first | exact .inl rfl | exact .inr rfl))) (fun _ _ _ _ _ => (jts_one (jt_cmp (jc_blk J.jc) (o_in J.u65) (je_var (pv 2)) (jv_var (pv 1)) (by rfl)))) (fun _ _ _ _ _ => (je_var (pv 2)))))) (jv_var (pv 1)) (by rfl)))))
theorem w_shared {P0 : Program} {w : World} {K : PySem.W.Frag} {mg : Str → Option Value} {base : Heap} {f fI : Addr} (G : Glob mg) (ER : ErrsOk K mg ers errSub fI)
    (cdv : Value) (A : Around) (outer : List PySem.Env) (s : Shared) (H : Hp) (E : XK) (C : Pr) (J : JX (cxOf (L2.CX P0 w) P0 w K mg base N_shared "shared" (defScope s_shared) f cdv A outer s H E) C 0) :
    PSs (cxOf (L2.CX P0 w) P0 w K mg base N_shared "shared" (defScope s_shared) f cdv A outer s H E) (defBody s_shared) (lS C r_shared) := by
  have nd : N_shared.Nodup := by decide +kernel
  exact (js_one (js_ret (je_join J.jc je_str (jv_of (je_lc J.jc J.calm nd (ji_val J.jc (je_var (pv 0))) (L2.blkOk_by (own := [("field", 2)]) (by kernel_rfl)) (by decide) (fun _ _ _ _ _ => (jg_name nd rfl (by first | exact .inl rfl | exact .inr rfl) (by first | exact .inl rfl | exact .inr rfl))) (fun _ _ _ _ _ => (jts_one (jt_cmp (jc_blk J.jc) (o_in J.u65) (je_var (pv 2)) (jv_var (pv 1)) (by rfl)))) (fun _ _ _ _ _ => (je_var (pv 2))))))))
theorem w_case_on {P0 : Program} {w : World} {K : PySem.W.Frag} {mg : Str → Option Value} {base : Heap} {f fI : Addr} (G : Glob mg) (ER : ErrsOk K mg ers errSub fI) (f_lot_on : FnI P0 w K mg base 1 "lot_on" ["fields", "text"] S.lot_on) (f_shared : FnI P0 w K mg base 1 "shared" ["one", "two"] S.shared)
    (cdv : Value) (A : Around) (outer : List PySem.Env) (s : Shared) (H : Hp) (E : XK) (C : Pr) (J : JX (cxOf (L2.CX P0 w) P0 w K mg base N_case_on "case_on" (defScope s_case_on) f cdv A outer s H E) C 1) :
    PSs (cxOf (L2.CX P0 w) P0 w K mg base N_case_on "case_on" (defScope s_case_on) f cdv A outer s H E) (defBody s_case_on) (lS C r_case_on) := by
  have nd : N_case_on.Nodup := by decide +kernel
  exact (js_cons (js_if (jt_pw (jw_or (jt_not (jt_val (je_isi (T := .tup) J.jc (by rfl) G.isinstance (jv_var (pv 1)) (pe_bltn (by rfl) G.tuple (by rfl) (by rfl))))) (jw_or1 (jt_cmp J.jc (o_ne J.u64) (je_cb J.jc c_len (by rfl) G.len (by rfl) (ja_one (g := daNil) (jv_var (pv 1)))) (jv_of je_int) (by rfl))))) (js_one (js_ret je_bl)) js_nil) (js_cons (js_asg (je_var (pv 1)) (jg_tup (n := 2) J.jc J.calm (jgs_cons (jg_name nd rfl (by first | exact .inl rfl | exact .inr rfl)) (jgs_cons (jg_name nd rfl (by first | exact .inl rfl | exact .inr rfl)) jgs_nil)) (gs_len gN_ex (gs_len gN_ex gs_len0)))) (js_one (js_ret (je_and (jf J.jc f_lot_on (J.room.mono (by decide)) (by rfl) (ja_cons (je_var (pv 0)) (ja_cons (je_var (pv 2)) ja_nil))) (je_and (jf J.jc f_lot_on (J.room.mono (by decide)) (by rfl) (ja_cons (je_var (pv 0)) (ja_cons (je_var (pv 3)) ja_nil))) (je_one (je_cmp J.jc (o_eq J.u64) (jf J.jc f_shared (J.room.mono (by decide)) (by rfl) (ja_cons (je_var (pv 2)) (ja_cons (je_var (pv 3)) ja_nil))) (jv_of je_str) (by rfl)))))))))
theorem w_check_fields {P0 : Program} {w : World} {K : PySem.W.Frag} {mg : Str → Option Value} {base : Heap} {f fI : Addr} (G : Glob mg) (ER : ErrsOk K mg ers errSub fI) (f_lot_on : FnI P0 w K mg base 1 "lot_on" ["fields", "text"] S.lot_on)
    (cdv : Value) (A : Around) (outer : List PySem.Env) (s : Shared) (H : Hp) (E : XK) (C : Pr) (J : JX (cxOf (L2.CX P0 w) P0 w K mg base N_check_fields "check_fields" (defScope s_check_fields) f cdv A outer s H E) C 1) :
    PSs (cxOf (L2.CX P0 w) P0 w K mg base N_check_fields "check_fields" (defScope s_check_fields) f cdv A outer s H E) (defBody s_check_fields) (lS C r_check_fields) := by
  have nd : N_check_fields.Nodup := by decide +kernel
  exact (js_cons (js_if (jt_pw (jw_or (jt_not (jt_val (jf J.jc f_lot_on (J.room.mono (by decide)) (by rfl) (ja_cons (je_gs (by rfl) G.FIELDS) (ja_cons (je_var (pv 0)) ja_nil))))) (jw_or1 (jt_cmp J.jc (o_eq J.u64) (je_var (pv 0)) (jv_of je_str) (by rfl))))) (js_one (js_raise J.jc J.calm ER (c := "BadLot") (by decide) (J.room.mono (j := 1) (by decide)) (ja_cons (je_var (pv 0)) ja_nil) (by rfl))) js_nil) (js_one (js_retv (pv 0))))
theorem w_check_case {P0 : Program} {w : World} {K : PySem.W.Frag} {mg : Str → Option Value} {base : Heap} {f fI : Addr} (G : Glob mg) (ER : ErrsOk K mg ers errSub fI) (f_case_on : FnI P0 w K mg base 2 "case_on" ["fields", "case"] S.case_on) (f_check_fields : FnI P0 w K mg base 2 "check_fields" ["fields"] S.check_fields)
    (cdv : Value) (A : Around) (outer : List PySem.Env) (s : Shared) (H : Hp) (E : XK) (C : Pr) (J : JX (cxOf (L2.CX P0 w) P0 w K mg base N_check_case "check_case" (defScope s_check_case) f cdv A outer s H E) C 2) :
    PSs (cxOf (L2.CX P0 w) P0 w K mg base N_check_case "check_case" (defScope s_check_case) f cdv A outer s H E) (defBody s_check_case) (lS C r_check_case) := by
  have nd : N_check_case.Nodup := by decide +kernel
  exact (js_cons (js_expr (jf J.jc f_check_fields (J.room.mono (by decide)) (by rfl) (ja_cons (je_var (pv 0)) ja_nil))) (js_cons (js_if (jt_not (jt_val (jf J.jc f_case_on (J.room.mono (by decide)) (by rfl) (ja_cons (je_var (pv 0)) (ja_cons (je_var (pv 1)) ja_nil))))) (js_one (js_raise J.jc J.calm ER (c := "BadCase") (by decide) (J.room.mono (j := 1) (by decide)) (ja_cons (je_var (pv 1)) ja_nil) (by rfl))) js_nil) (js_one (js_retv (pv 1)))))
theorem w_joined {P0 : Program} {w : World} {K : PySem.W.Frag} {mg : Str → Option Value} {base : Heap} {f fI : Addr} (G : Glob mg) (ER : ErrsOk K mg ers errSub fI)
    (cdv : Value) (A : Around) (outer : List PySem.Env) (s : Shared) (H : Hp) (E : XK) (C : Pr) (J : JX (cxOf (L2.CX P0 w) P0 w K mg base N_joined "joined" (defScope s_joined) f cdv A outer s H E) C 0) :
    PSs (cxOf (L2.CX P0 w) P0 w K mg base N_joined "joined" (defScope s_joined) f cdv A outer s H E) (defBody s_joined) (lS C r_joined) := by
  have nd : N_joined.Nodup := by decide +kernel
  exact (js_one (js_ret (je_join J.jc je_str (jv_of (je_lc J.jc J.calm nd (ji_val J.jc (je_gs (by rfl) G.FIELDS)) (L2.blkOk_by (own := [("field", 2)]) (by kernel_rfl)) (by decide) (fun _ _ _ _ _ => (jg_name nd rfl (by first | exact .inl rfl | exact .inr rfl) (by first | exact .inl rfl | exact .inr rfl))) (fun _ _ _ _ _ => (jts_one (jt_pw (jw_or (jt_cmp (jc_blk J.jc) (o_in J.u65) (je_var (pv 2)) (jv_var (pv 0)) (by rfl)) (jw_or1 (jt_cmp (jc_blk J.jc) (o_in J.u65) (je_var (pv 2)) (jv_var (pv 1)) (by rfl))))))) (fun _ _ _ _ _ => (je_var (pv 2))))))))
theorem w_unlike_fields {P0 : Program} {w : World} {K : PySem.W.Frag} {mg : Str → Option Value} {base : Heap} {f fI : Addr} (G : Glob mg) (ER : ErrsOk K mg ers errSub fI) (f_joined : FnI P0 w K mg base 1 "joined" ["one", "two"] S.joined) (f_shared : FnI P0 w K mg base 1 "shared" ["one", "two"] S.shared)
    (cdv : Value) (A : Around) (outer : List PySem.Env) (s : Shared) (H : Hp) (E : XK) (C : Pr) (J : JX (cxOf (L2.CX P0 w) P0 w K mg base N_unlike_fields "unlike_fields" (defScope s_unlike_fields) f cdv A outer s H E) C 1) :
    PSs (cxOf (L2.CX P0 w) P0 w K mg base N_unlike_fields "unlike_fields" (defScope s_unlike_fields) f cdv A outer s H E) (defBody s_unlike_fields) (lS C r_unlike_fields) := by
  have nd : N_unlike_fields.Nodup := by decide +kernel
  exact (js_one (js_ret (jf J.jc f_joined (J.room.mono (by decide)) (by rfl) (ja_cons (jf J.jc f_shared (J.room.mono (by decide)) (by rfl) (ja_cons (je_ixV J.jc (pv 0) je_int) (ja_cons (je_ixV J.jc (pv 1) je_int) ja_nil))) (ja_cons (jf J.jc f_shared (J.room.mono (by decide)) (by rfl) (ja_cons (je_ixV J.jc (pv 0) je_int) (ja_cons (je_ixV J.jc (pv 1) je_int) ja_nil))) ja_nil)))))
theorem w_without {P0 : Program} {w : World} {K : PySem.W.Frag} {mg : Str → Option Value} {base : Heap} {f fI : Addr} (G : Glob mg) (ER : ErrsOk K mg ers errSub fI)
    (cdv : Value) (A : Around) (outer : List PySem.Env) (s : Shared) (H : Hp) (E : XK) (C : Pr) (J : JX (cxOf (L2.CX P0 w) P0 w K mg base N_without "without" (defScope s_without) f cdv A outer s H E) C 0) :
    PSs (cxOf (L2.CX P0 w) P0 w K mg base N_without "without" (defScope s_without) f cdv A outer s H E) (defBody s_without) (lS C r_without) := by
  have nd : N_without.Nodup := by decide +kernel
  exact (js_one (js_ret (je_join J.jc je_str (jv_of (je_lc J.jc J.calm nd (ji_val J.jc (je_var (pv 0))) (L2.blkOk_by (own := [("field", 2)]) (by kernel_rfl)) (by decide) (fun _ _ _ _ _ => (jg_name nd rfl (by first | exact .inl rfl | exact .inr rfl) (by first | exact .inl rfl | exact .inr rfl))) (fun _ _ _ _ _ => (jts_one (jt_cmp (jc_blk J.jc) (o_notin J.u65) (je_var (pv 2)) (jv_var (pv 1)) (by rfl)))) (fun _ _ _ _ _ => (je_var (pv 2))))))))
theorem w_settled {P0 : Program} {w : World} {K : PySem.W.Frag} {mg : Str → Option Value} {base : Heap} {f fI : Addr} (G : Glob mg) (ER : ErrsOk K mg ers errSub fI) (f_joined : FnI P0 w K mg base 1 "joined" ["one", "two"] S.joined) (f_unlike_fields : FnI P0 w K mg base 2 "unlike_fields" ["one", "two"] S.unlike_fields) (f_without : FnI P0 w K mg base 1 "without" ["one", "two"] S.without)
    (cdv : Value) (A : Around) (outer : List PySem.Env) (s : Shared) (H : Hp) (E : XK) (C : Pr) (J : JX (cxOf (L2.CX P0 w) P0 w K mg base N_settled "settled" (defScope s_settled) f cdv A outer s H E) C 2) :
    PSs (cxOf (L2.CX P0 w) P0 w K mg base N_settled "settled" (defScope s_settled) f cdv A outer s H E) (defBody s_settled) (lS C r_settled) := by
  have nd : N_settled.Nodup := by decide +kernel
  exact (js_cons (js_set (i := 2) nd rfl (by first | exact .inl rfl | exact .inr rfl) (jf J.jc f_unlike_fields (J.room.mono (by decide)) (by rfl) (ja_cons (je_var (pv 0)) (ja_cons (je_var (pv 1)) ja_nil)))) (js_one (js_ret (je_tup (ja_cons (jf J.jc f_without (J.room.mono (by decide)) (by rfl) (ja_cons (jf J.jc f_joined (J.room.mono (by decide)) (by rfl) (ja_cons (je_ixV J.jc (pv 0) je_int) (ja_cons (je_ixV J.jc (pv 1) je_int) ja_nil))) (ja_cons (je_var (pv 2)) ja_nil))) (ja_cons (jf J.jc f_without (J.room.mono (by decide)) (by rfl) (ja_cons (jf J.jc f_joined (J.room.mono (by decide)) (by rfl) (ja_cons (je_ixV J.jc (pv 0) je_int) (ja_cons (je_ixV J.jc (pv 1) je_int) ja_nil))) (ja_cons (je_var (pv 2)) ja_nil))) ja_nil))))))
theorem w_is_meeting {P0 : Program} {w : World} {K : PySem.W.Frag} {mg : Str → Option Value} {base : Heap} {f fI : Addr} (G : Glob mg) (ER : ErrsOk K mg ers errSub fI) (f_check_case : FnI P0 w K mg base 3 "check_case" ["fields", "case"] S.check_case) (f_settled : FnI P0 w K mg base 3 "settled" ["one", "two"] S.settled) (f_unlike_fields : FnI P0 w K mg base 2 "unlike_fields" ["one", "two"] S.unlike_fields) (f_without : FnI P0 w K mg base 1 "without" ["one", "two"] S.without)
    (cdv : Value) (A : Around) (outer : List PySem.Env) (s : Shared) (H : Hp) (E : XK) (C : Pr) (J : JX (cxOf (L2.CX P0 w) P0 w K mg base N_is_meeting "is_meeting" (defScope s_is_meeting) f cdv A outer s H E) C 3) :
    PSs (cxOf (L2.CX P0 w) P0 w K mg base N_is_meeting "is_meeting" (defScope s_is_meeting) f cdv A outer s H E) (defBody s_is_meeting) (lS C r_is_meeting) := by
  have nd : N_is_meeting.Nodup := by decide +kernel
  exact (js_cons (js_expr (jf J.jc f_check_case (J.room.mono (by decide)) (by rfl) (ja_cons (je_var (pv 0)) (ja_cons (je_var (pv 1)) ja_nil)))) (js_cons (js_expr (jf J.jc f_check_case (J.room.mono (by decide)) (by rfl) (ja_cons (je_var (pv 0)) (ja_cons (je_var (pv 2)) ja_nil)))) (js_cons (js_expr (jf J.jc f_check_case (J.room.mono (by decide)) (by rfl) (ja_cons (je_var (pv 0)) (ja_cons (je_var (pv 3)) ja_nil)))) (js_cons (js_set (i := 4) nd rfl (by first | exact .inl rfl | exact .inr rfl) (jf J.jc f_unlike_fields (J.room.mono (by decide)) (by rfl) (ja_cons (je_var (pv 1)) (ja_cons (je_var (pv 2)) ja_nil)))) (js_one (js_ret (je_cmp J.jc (o_eq J.u64) (je_tup (ja_cons (jf J.jc f_without (J.room.mono (by decide)) (by rfl) (ja_cons (je_ixV J.jc (pv 3) je_int) (ja_cons (je_var (pv 4)) ja_nil))) (ja_cons (jf J.jc f_without (J.room.mono (by decide)) (by rfl) (ja_cons (je_ixV J.jc (pv 3) je_int) (ja_cons (je_var (pv 4)) ja_nil))) ja_nil))) (jv_of (jf J.jc f_settled (J.room.mono (by decide)) (by rfl) (ja_cons (je_var (pv 1)) (ja_cons (je_var (pv 2)) ja_nil)))) (by rfl))))))))
theorem w_lot_place {P0 : Program} {w : World} {K : PySem.W.Frag} {mg : Str → Option Value} {base : Heap} {f fI : Addr} (G : Glob mg) (ER : ErrsOk K mg ers errSub fI)
    (cdv : Value) (A : Around) (outer : List PySem.Env) (s : Shared) (H : Hp) (E : XK) (C : Pr) (J : JX (cxOf (L2.CX P0 w) P0 w K mg base N_lot_place "lot_place" (defScope s_lot_place) f cdv A outer s H E) C 0) :
    PSs (cxOf (L2.CX P0 w) P0 w K mg base N_lot_place "lot_place" (defScope s_lot_place) f cdv A outer s H E) (defBody s_lot_place) (lS C r_lot_place) := by
  have nd : N_lot_place.Nodup := by decide +kernel
  exact (js_one (js_ret (je_tup (ja_cons (je_cb J.jc c_len (by rfl) G.len (by rfl) (ja_one (g := daNil) (jv_var (pv 0)))) (ja_cons (je_var (pv 0)) ja_nil)))))
theorem w_case_place {P0 : Program} {w : World} {K : PySem.W.Frag} {mg : Str → Option Value} {base : Heap} {f fI : Addr} (G : Glob mg) (ER : ErrsOk K mg ers errSub fI) (f_lot_place : FnI P0 w K mg base 1 "lot_place" ["lot"] S.lot_place)
    (cdv : Value) (A : Around) (outer : List PySem.Env) (s : Shared) (H : Hp) (E : XK) (C : Pr) (J : JX (cxOf (L2.CX P0 w) P0 w K mg base N_case_place "case_place" (defScope s_case_place) f cdv A outer s H E) C 1) :
    PSs (cxOf (L2.CX P0 w) P0 w K mg base N_case_place "case_place" (defScope s_case_place) f cdv A outer s H E) (defBody s_case_place) (lS C r_case_place) := by
  have nd : N_case_place.Nodup := by decide +kernel
  exact (js_one (js_ret (je_tup (ja_cons (jf J.jc f_lot_place (J.room.mono (by decide)) (by rfl) (ja_cons (je_ixV J.jc (pv 0) je_int) ja_nil)) (ja_cons (jf J.jc f_lot_place (J.room.mono (by decide)) (by rfl) (ja_cons (je_ixV J.jc (pv 0) je_int) ja_nil)) ja_nil)))))
theorem w_parts_of {P0 : Program} {w : World} {K : PySem.W.Frag} {mg : Str → Option Value} {base : Heap} {f fI : Addr} (G : Glob mg) (ER : ErrsOk K mg ers errSub fI) (f_lot_place : FnI P0 w K mg base 1 "lot_place" ["lot"] S.lot_place)
    (cdv : Value) (A : Around) (outer : List PySem.Env) (s : Shared) (H : Hp) (E : XK) (C : Pr) (J : JX (cxOf (L2.CX P0 w) P0 w K mg base N_parts_of "parts_of" (defScope s_parts_of) f cdv A outer s H E) C 3) :
    PSs (cxOf (L2.CX P0 w) P0 w K mg base N_parts_of "parts_of" (defScope s_parts_of) f cdv A outer s H E) (defBody s_parts_of) (lS C r_parts_of) := by
  have nd : N_parts_of.Nodup := by decide +kernel
  exact (js_cons (js_set (i := 1) nd rfl (by first | exact .inl rfl | exact .inr rfl) (je_lst (ja_cons je_str ja_nil))) (js_cons (js_for J.po J.calm (ji_val J.jc (je_var (pv 0))) (jg_name nd rfl (by first | exact .inl rfl | exact .inr rfl)) (js_one (js_set (i := 1) nd rfl (by first | exact .inl rfl | exact .inr rfl) (je_op J.jc o_add (je_var (pv 1)) (jv_of (je_lc J.jc J.calm nd (ji_val J.jc (je_var (pv 1))) (L2.blkOk_by (own := [("part", 3)]) (by kernel_rfl)) (by decide) (fun _ _ _ _ _ => (jg_name nd rfl (by first | exact .inl rfl | exact .inr rfl) (by first | exact .inl rfl | exact .inr rfl))) (fun _ _ _ _ _ => jts_nil) (fun _ _ _ _ _ => (je_op (jc_blk J.jc) o_add (je_var (pv 3)) (jv_var (pv 2)))))))))) (js_one (js_ret (je_sortK J.jc f_lot_place (J.room.mono (by decide)) (by rfl) (by rfl) G.sorted (ja_one (g := daNil) (jv_var (pv 1))))))))
theorem w_pairs_in {P0 : Program} {w : World} {K : PySem.W.Frag} {mg : Str → Option Value} {base : Heap} {f fI : Addr} (G : Glob mg) (ER : ErrsOk K mg ers errSub fI) (f_parts_of : FnI P0 w K mg base 4 "parts_of" ["lot"] S.parts_of) (f_without : FnI P0 w K mg base 1 "without" ["one", "two"] S.without)
    (cdv : Value) (A : Around) (outer : List PySem.Env) (s : Shared) (H : Hp) (E : XK) (C : Pr) (J : JX (cxOf (L2.CX P0 w) P0 w K mg base N_pairs_in "pairs_in" (defScope s_pairs_in) f cdv A outer s H E) C 4) :
    PSs (cxOf (L2.CX P0 w) P0 w K mg base N_pairs_in "pairs_in" (defScope s_pairs_in) f cdv A outer s H E) (defBody s_pairs_in) (lS C r_pairs_in) := by
  have nd : N_pairs_in.Nodup := by decide +kernel
  exact (js_one (js_ret (je_lc2 J.jc J.calm nd (ji_val J.jc (jf J.jc f_parts_of (J.room.mono (by decide)) (by rfl) (ja_cons (je_var (pv 0)) ja_nil))) (L2.blkOk_by (own := [("ahead", 1), ("behind", 2)]) (by kernel_rfl)) (vs1 := [2]) (by decide) (by decide) (by decide) (fun _ _ _ _ _ => (jg_name nd rfl (by first | exact .inl rfl | exact .inr rfl) (by first | exact .inl rfl | exact .inr rfl))) (fun _ _ _ _ _ => jts_nil) (fun _ _ _ _ _ => (ji_val (jc_blk J.jc) (jf (jc_blk J.jc) f_parts_of (J.room.mono (by decide)) (by rfl) (ja_cons (jf (jc_blk J.jc) f_without (J.room.mono (by decide)) (by rfl) (ja_cons (je_var (pv 0)) (ja_cons (je_var (pv 1)) ja_nil))) ja_nil)))) (fun _ _ _ _ _ => (jg_name nd rfl (by first | exact .inl rfl | exact .inr rfl) (by first | exact .inl rfl | exact .inr rfl))) (fun _ _ _ _ _ => jts_nil) (fun _ _ _ _ _ => (je_tup (ja_cons (je_var (pv 1)) (ja_cons (je_var (pv 2)) ja_nil)))))))
theorem w_meetings {P0 : Program} {w : World} {K : PySem.W.Frag} {mg : Str → Option Value} {base : Heap} {f fI : Addr} (G : Glob mg) (ER : ErrsOk K mg ers errSub fI) (f_case_place : FnI P0 w K mg base 2 "case_place" ["case"] S.case_place) (f_check_case : FnI P0 w K mg base 3 "check_case" ["fields", "case"] S.check_case) (f_joined : FnI P0 w K mg base 1 "joined" ["one", "two"] S.joined) (f_pairs_in : FnI P0 w K mg base 5 "pairs_in" ["lot"] S.pairs_in) (f_settled : FnI P0 w K mg base 3 "settled" ["one", "two"] S.settled) (f_unlike_fields : FnI P0 w K mg base 2 "unlike_fields" ["one", "two"] S.unlike_fields)
    (cdv : Value) (A : Around) (outer : List PySem.Env) (s : Shared) (H : Hp) (E : XK) (C : Pr) (J : JX (cxOf (L2.CX P0 w) P0 w K mg base N_meetings "meetings" (defScope s_meetings) f cdv A outer s H E) C 5) :
    PSs (cxOf (L2.CX P0 w) P0 w K mg base N_meetings "meetings" (defScope s_meetings) f cdv A outer s H E) (defBody s_meetings) (lS C r_meetings) := by
  have nd : N_meetings.Nodup := by decide +kernel
  exact (js_cons (js_expr (jf J.jc f_check_case (J.room.mono (by decide)) (by rfl) (ja_cons (je_var (pv 0)) (ja_cons (je_var (pv 1)) ja_nil)))) (js_cons (js_expr (jf J.jc f_check_case (J.room.mono (by decide)) (by rfl) (ja_cons (je_var (pv 0)) (ja_cons (je_var (pv 2)) ja_nil)))) (js_cons (js_asg (jf J.jc f_settled (J.room.mono (by decide)) (by rfl) (ja_cons (je_var (pv 1)) (ja_cons (je_var (pv 2)) ja_nil))) (jg_tup (n := 2) J.jc J.calm (jgs_cons (jg_name nd rfl (by first | exact .inl rfl | exact .inr rfl)) (jgs_cons (jg_name nd rfl (by first | exact .inl rfl | exact .inr rfl)) jgs_nil)) (gs_len gN_ex (gs_len gN_ex gs_len0)))) (js_cons (js_set (i := 5) nd rfl (by first | exact .inl rfl | exact .inr rfl) (jf J.jc f_pairs_in (J.room.mono (by decide)) (by rfl) (ja_cons (jf J.jc f_unlike_fields (J.room.mono (by decide)) (by rfl) (ja_cons (je_var (pv 1)) (ja_cons (je_var (pv 2)) ja_nil))) ja_nil))) (js_cons (js_setLc (i := 6) J.jc J.calm nd rfl rfl (L2.sw_true rfl rfl rfl (by decide +kernel)) (ji_val J.jc (je_var (pv 5))) (L2.blkOk_by (own := [("case", 7)]) (by kernel_rfl)) (by decide) (fun _ _ _ _ _ => (jg_name nd rfl (by first | exact .inl rfl | exact .inr rfl) (by first | exact .inl rfl | exact .inr rfl))) (fun _ _ _ _ _ => jts_nil) (fun _ _ _ _ _ => (je_tup (ja_cons (jf (jc_blk J.jc) f_joined (J.room.mono (by decide)) (by rfl) (ja_cons (je_var (pv 3)) (ja_cons (je_ixV (jc_blk J.jc) (pv 7) je_int) ja_nil))) (ja_cons (jf (jc_blk J.jc) f_joined (J.room.mono (by decide)) (by rfl) (ja_cons (je_var (pv 4)) (ja_cons (je_ixV (jc_blk J.jc) (pv 7) je_int) ja_nil))) ja_nil))))) (js_one (js_ret (je_sortK J.jc f_case_place (J.room.mono (by decide)) (by rfl) (by rfl) G.sorted (ja_one (g := daNil) (jv_var (pv 6)))))))))))
theorem w__law_asked {P0 : Program} {w : World} {K : PySem.W.Frag} {mg : Str → Option Value} {base : Heap} {f fI : Addr} (G : Glob mg) (ER : ErrsOk K mg ers errSub fI) (f_is_meeting : FnI P0 w K mg base 4 "is_meeting" ["fields", "one", "two", "third"] S.is_meeting) (f_meetings : FnI P0 w K mg base 6 "meetings" ["fields", "one", "two"] S.meetings)
    (cdv : Value) (A : Around) (outer : List PySem.Env) (s : Shared) (H : Hp) (E : XK) (C : Pr) (J : JX (cxOf (L2.CX P0 w) P0 w K mg base N__law_asked "_law_asked" (defScope s__law_asked) f cdv A outer s H E) C 6) :
    PSs (cxOf (L2.CX P0 w) P0 w K mg base N__law_asked "_law_asked" (defScope s__law_asked) f cdv A outer s H E) (defBody s__law_asked) (lS C r__law_asked) := by
  have nd : N__law_asked.Nodup := by decide +kernel
  exact (js_cons (js_try (cc := "OutweighedError") J.jc ER (by decide) rfl rfl nd (i := 6) rfl rfl rfl (fun W pn xe tk po => (js_one (js_set (i := 5) nd rfl (by first | exact .inl rfl | exact .inr rfl) (je_ifE (jt_cmp (jc_tr J.jc tk) (o_eq J.u64) (je_var (pv 0)) (jv_of je_int) (by rfl)) (jf (jc_tr J.jc tk) f_meetings (J.room.mono (by decide)) (by rfl) (ja_cons (je_var (pv 1)) (ja_cons (je_var (pv 2)) (ja_cons (je_var (pv 3)) ja_nil)))) (jf (jc_tr J.jc tk) f_is_meeting (J.room.mono (by decide)) (by rfl) (ja_cons (je_var (pv 1)) (ja_cons (je_var (pv 2)) (ja_cons (je_var (pv 3)) (ja_cons (je_var (pv 4)) ja_nil))))))))) (fun ec hc ex ev ea ed oe pn hz hv => (js_cons (js_set (i := 7) nd rfl (by first | exact .inl rfl | exact .inr rfl) je_str) (js_cons (js_if (jt_val (je_isX (c2 := "BadLot") J.jc ER hc (by decide) hz hv (by rfl) G.isinstance (pv 6) (pe_glob (by rfl) (ER.c "BadLot" (by decide)).gC rfl (by decide)))) (js_one (js_set (i := 7) nd rfl (by first | exact .inl rfl | exact .inr rfl) (je_op (jc_suite J.jc) o_add (je_var (pv 7)) (jv_of je_str)))) js_nil) (js_cons (js_if (jt_val (je_isX (c2 := "BadCase") J.jc ER hc (by decide) hz hv (by rfl) G.isinstance (pv 6) (pe_glob (by rfl) (ER.c "BadCase" (by decide)).gC rfl (by decide)))) (js_one (js_set (i := 7) nd rfl (by first | exact .inl rfl | exact .inr rfl) (je_op (jc_suite J.jc) o_add (je_var (pv 7)) (jv_of je_str)))) js_nil) (js_cons (js_if (jt_val (je_isXT (cs := ((["BadNames", "PlainCase", "BadLevel", "BadScale", "BadRow", "BadTag", "BadText", "BadPaper", "BadOrder", "BadPairs", "BadCount", "BadBox"] : List PySem.Str) ++ (["BadLine", "WrongFields", "NoRow", "NoName", "NameTaken", "NotLearnt", "NothingThere", "EmptyList", "TooMany", "TooDeep", "NotFrame", "NotClosure"] : List PySem.Str) ++ (["NotClosed", "NotSteady", "NotWord", "NotStrikable", "NotWithin", "RoundRule", "Disagrees", "BothSides", "Against"] : List PySem.Str))) J.jc ER hc (by decide) hz hv (by rfl) G.isinstance (pv 6) (clsrow_cons (pe_glob (by rfl) (ER.c "BadNames" (by decide)).gC rfl (by decide)) (clsrow_cons (pe_glob (by rfl) (ER.c "PlainCase" (by decide)).gC rfl (by decide)) (clsrow_cons (pe_glob (by rfl) (ER.c "BadLevel" (by decide)).gC rfl (by decide)) (clsrow_cons (pe_glob (by rfl) (ER.c "BadScale" (by decide)).gC rfl (by decide)) (clsrow_cons (pe_glob (by rfl) (ER.c "BadRow" (by decide)).gC rfl (by decide)) (clsrow_cons (pe_glob (by rfl) (ER.c "BadTag" (by decide)).gC rfl (by decide)) (clsrow_cons (pe_glob (by rfl) (ER.c "BadText" (by decide)).gC rfl (by decide)) (clsrow_cons (pe_glob (by rfl) (ER.c "BadPaper" (by decide)).gC rfl (by decide)) (clsrow_cons (pe_glob (by rfl) (ER.c "BadOrder" (by decide)).gC rfl (by decide)) (clsrow_cons (pe_glob (by rfl) (ER.c "BadPairs" (by decide)).gC rfl (by decide)) (clsrow_cons (pe_glob (by rfl) (ER.c "BadCount" (by decide)).gC rfl (by decide)) (clsrow_cons (pe_glob (by rfl) (ER.c "BadBox" (by decide)).gC rfl (by decide)) (clsrow_cons (pe_glob (by rfl) (ER.c "BadLine" (by decide)).gC rfl (by decide)) (clsrow_cons (pe_glob (by rfl) (ER.c "WrongFields" (by decide)).gC rfl (by decide)) (clsrow_cons (pe_glob (by rfl) (ER.c "NoRow" (by decide)).gC rfl (by decide)) (clsrow_cons (pe_glob (by rfl) (ER.c "NoName" (by decide)).gC rfl (by decide)) (clsrow_cons (pe_glob (by rfl) (ER.c "NameTaken" (by decide)).gC rfl (by decide)) (clsrow_cons (pe_glob (by rfl) (ER.c "NotLearnt" (by decide)).gC rfl (by decide)) (clsrow_cons (pe_glob (by rfl) (ER.c "NothingThere" (by decide)).gC rfl (by decide)) (clsrow_cons (pe_glob (by rfl) (ER.c "EmptyList" (by decide)).gC rfl (by decide)) (clsrow_cons (pe_glob (by rfl) (ER.c "TooMany" (by decide)).gC rfl (by decide)) (clsrow_cons (pe_glob (by rfl) (ER.c "TooDeep" (by decide)).gC rfl (by decide)) (clsrow_cons (pe_glob (by rfl) (ER.c "NotFrame" (by decide)).gC rfl (by decide)) (clsrow_cons (pe_glob (by rfl) (ER.c "NotClosure" (by decide)).gC rfl (by decide)) (clsrow_cons (pe_glob (by rfl) (ER.c "NotClosed" (by decide)).gC rfl (by decide)) (clsrow_cons (pe_glob (by rfl) (ER.c "NotSteady" (by decide)).gC rfl (by decide)) (clsrow_cons (pe_glob (by rfl) (ER.c "NotWord" (by decide)).gC rfl (by decide)) (clsrow_cons (pe_glob (by rfl) (ER.c "NotStrikable" (by decide)).gC rfl (by decide)) (clsrow_cons (pe_glob (by rfl) (ER.c "NotWithin" (by decide)).gC rfl (by decide)) (clsrow_cons (pe_glob (by rfl) (ER.c "RoundRule" (by decide)).gC rfl (by decide)) (clsrow_cons (pe_glob (by rfl) (ER.c "Disagrees" (by decide)).gC rfl (by decide)) (clsrow_cons (pe_glob (by rfl) (ER.c "BothSides" (by decide)).gC rfl (by decide)) (clsrow_cons (pe_glob (by rfl) (ER.c "Against" (by decide)).gC rfl (by decide)) clsrow_nil))))))))))))))))))))))))))))))))) (by decide))) (js_one (js_set (i := 7) nd rfl (by first | exact .inl rfl | exact .inr rfl) (je_op (jc_suite J.jc) o_add (je_var (pv 7)) (jv_of je_str)))) js_nil) (js_cons (js_if (jt_not (jt_val (je_isV J.jc ER hc hz hv (by rfl) G.isinstance (pv 6) (pe_bltn (by rfl) G.ValueError (by rfl) (by rfl))))) (js_one (js_set (i := 7) nd rfl (by first | exact .inl rfl | exact .inr rfl) (je_op (jc_suite J.jc) o_add (je_var (pv 7)) (jv_of je_str)))) js_nil) (js_one (js_ret (je_tup (ja_cons je_str (ja_cons (je_var (pv 7)) (ja_cons (je_at J.jc ER hc hz hv (pv 6)) ja_nil))))))))))))) (js_one (js_ret (je_tup (ja_cons je_str (ja_cons (je_var (pv 5)) ja_nil))))))
theorem w__law_rising {P0 : Program} {w : World} {K : PySem.W.Frag} {mg : Str → Option Value} {base : Heap} {f fI : Addr} (G : Glob mg) (ER : ErrsOk K mg ers errSub fI)
    (cdv : Value) (A : Around) (outer : List PySem.Env) (s : Shared) (H : Hp) (E : XK) (C : Pr) (J : JX (cxOf (L2.CX P0 w) P0 w K mg base N__law_rising "_law_rising" (defScope s__law_rising) f cdv A outer s H E) C 0) :
    PSs (cxOf (L2.CX P0 w) P0 w K mg base N__law_rising "_law_rising" (defScope s__law_rising) f cdv A outer s H E) (defBody s__law_rising) (lS C r__law_rising) := by
  have nd : N__law_rising.Nodup := by decide +kernel
  exact (js_cons (js_set (i := 2) nd rfl (by first | exact .inl rfl | exact .inr rfl) je_str) (js_cons (js_for J.po J.calm (ji_val J.jc (je_var (pv 1))) (jg_name nd rfl (by first | exact .inl rfl | exact .inr rfl)) (js_cons (js_if (jt_pw (jw_or (jt_cmp J.jc (o_notin J.u65) (je_var (pv 3)) (jv_var (pv 0)) (by rfl)) (jw_or1 (jt_cmp J.jc (o_leD J.u64) (je_var (pv 3)) (jv_var (pv 2)) (by rfl))))) (js_one (js_ret je_bl)) js_nil) (js_one (js_set (i := 2) nd rfl (by first | exact .inl rfl | exact .inr rfl) (je_var (pv 3)))))) (js_one (js_ret je_bl))))
theorem w__law_right_case {P0 : Program} {w : World} {K : PySem.W.Frag} {mg : Str → Option Value} {base : Heap} {f fI : Addr} (G : Glob mg) (ER : ErrsOk K mg ers errSub fI) (f__law_rising : FnI P0 w K mg base 1 "_law_rising" ["fields", "text"] S._law_rising)
    (cdv : Value) (A : Around) (outer : List PySem.Env) (s : Shared) (H : Hp) (E : XK) (C : Pr) (J : JX (cxOf (L2.CX P0 w) P0 w K mg base N__law_right_case "_law_right_case" (defScope s__law_right_case) f cdv A outer s H E) C 1) :
    PSs (cxOf (L2.CX P0 w) P0 w K mg base N__law_right_case "_law_right_case" (defScope s__law_right_case) f cdv A outer s H E) (defBody s__law_right_case) (lS C r__law_right_case) := by
  have nd : N__law_right_case.Nodup := by decide +kernel
  exact (js_cons (js_if (jt_pw (jw_or (jt_cmp J.jc (o_ne J.u64) (je_cb J.jc c_len (by rfl) G.len (by rfl) (ja_one (g := daNil) (jv_var (pv 1)))) (jv_of je_int) (by rfl)) (jw_or (jt_not (jt_val (jf J.jc f__law_rising (J.room.mono (by decide)) (by rfl) (ja_cons (je_var (pv 0)) (ja_cons (je_ixV J.jc (pv 1) je_int) ja_nil))))) (jw_or1 (jt_not (jt_val (jf J.jc f__law_rising (J.room.mono (by decide)) (by rfl) (ja_cons (je_var (pv 0)) (ja_cons (je_ixV J.jc (pv 1) je_int) ja_nil))))))))) (js_one (js_ret je_bl)) js_nil) (js_one (js_ret (je_cmp J.jc (o_eq J.u64) (je_cb J.jc c_len (by rfl) G.len (by rfl) (ja_one (g := daNil) (jv_of (je_lc J.jc J.calm nd (ji_val J.jc (je_ixV J.jc (pv 1) je_int)) (L2.blkOk_by (own := [("field", 2)]) (by kernel_rfl)) (by decide) (fun _ _ _ _ _ => (jg_name nd rfl (by first | exact .inl rfl | exact .inr rfl) (by first | exact .inl rfl | exact .inr rfl))) (fun _ _ _ _ _ => (jts_one (jt_cmp (jc_blk J.jc) (o_in J.u65) (je_var (pv 2)) (jv_of (je_ixV (jc_blk J.jc) (pv 1) je_int)) (by rfl)))) (fun _ _ _ _ _ => (je_var (pv 2))))))) (jv_of je_int) (by rfl)))))
theorem w__law_refusal {P0 : Program} {w : World} {K : PySem.W.Frag} {mg : Str → Option Value} {base : Heap} {f fI : Addr} (G : Glob mg) (ER : ErrsOk K mg ers errSub fI) (f__law_right_case : FnI P0 w K mg base 2 "_law_right_case" ["fields", "case"] S._law_right_case) (f__law_rising : FnI P0 w K mg base 1 "_law_rising" ["fields", "text"] S._law_rising)
    (cdv : Value) (A : Around) (outer : List PySem.Env) (s : Shared) (H : Hp) (E : XK) (C : Pr) (J : JX (cxOf (L2.CX P0 w) P0 w K mg base N__law_refusal "_law_refusal" (defScope s__law_refusal) f cdv A outer s H E) C 2) :
    PSs (cxOf (L2.CX P0 w) P0 w K mg base N__law_refusal "_law_refusal" (defScope s__law_refusal) f cdv A outer s H E) (defBody s__law_refusal) (lS C r__law_refusal) := by
  have nd : N__law_refusal.Nodup := by decide +kernel
  exact (js_cons (js_if (jt_pw (jw_or (jt_cmp J.jc (o_eq J.u64) (je_var (pv 1)) (jv_of je_str) (by rfl)) (jw_or1 (jt_not (jt_val (jf J.jc f__law_rising (J.room.mono (by decide)) (by rfl) (ja_cons je_str (ja_cons (je_var (pv 1)) ja_nil)))))))) (js_one (js_ret (je_tup (ja_cons je_str (ja_cons je_str (ja_cons (je_var (pv 1)) ja_nil)))))) js_nil) (js_cons (js_for J.po J.calm (ji_val J.jc (je_lst (ja_cons (je_var (pv 2)) (ja_cons (je_var (pv 3)) ja_nil)))) (jg_name nd rfl (by first | exact .inl rfl | exact .inr rfl)) (js_one (js_if (jt_not (jt_val (jf J.jc f__law_right_case (J.room.mono (by decide)) (by rfl) (ja_cons (je_var (pv 1)) (ja_cons (je_var (pv 5)) ja_nil))))) (js_one (js_ret (je_tup (ja_cons je_str (ja_cons je_str (ja_cons (je_var (pv 5)) ja_nil)))))) js_nil))) (js_cons (js_if (jt_pw (jw_and (jt_cmp J.jc (o_eq J.u64) (je_var (pv 0)) (jv_of je_int) (by rfl)) (jw_and1 (jt_not (jt_val (jf J.jc f__law_right_case (J.room.mono (by decide)) (by rfl) (ja_cons (je_var (pv 1)) (ja_cons (je_var (pv 4)) ja_nil)))))))) (js_one (js_ret (je_tup (ja_cons je_str (ja_cons je_str (ja_cons (je_var (pv 4)) ja_nil)))))) js_nil) (js_one (js_ret (je_tup ja_nil))))))
theorem w__law_same_plain {P0 : Program} {w : World} {K : PySem.W.Frag} {mg : Str → Option Value} {base : Heap} {f fI : Addr} (G : Glob mg) (ER : ErrsOk K mg ers errSub fI)
    (cdv : Value) (A : Around) (outer : List PySem.Env) (s : Shared) (H : Hp) (E : XK) (C : Pr) (J : JX (cxOf (L2.CX P0 w) P0 w K mg base N__law_same_plain "_law_same_plain" (defScope s__law_same_plain) f cdv A outer s H E) C 0) :
    PSs (cxOf (L2.CX P0 w) P0 w K mg base N__law_same_plain "_law_same_plain" (defScope s__law_same_plain) f cdv A outer s H E) (defBody s__law_same_plain) (lS C r__law_same_plain) := by
  have nd : N__law_same_plain.Nodup := by decide +kernel
  exact (js_cons (js_if (jt_pw (jw_or (jt_cmp J.jc o_is (je_var (pv 1)) (jv_of je_non) (by rfl)) (jw_or1 (jt_cmp J.jc o_is (je_var (pv 0)) (jv_of je_non) (by rfl))))) (js_one (js_ret (je_and (je_cmp J.jc o_is (je_var (pv 0)) (jv_of je_non) (by rfl)) (je_one (je_cmp J.jc o_is (je_var (pv 1)) (jv_of je_non) (by rfl)))))) js_nil) (js_cons (js_if (jt_pw (jw_or (jt_val (je_isi (T := .bl) J.jc (by rfl) G.isinstance (jv_var (pv 0)) (pe_bltn (by rfl) G.bool (by rfl) (by rfl)))) (jw_or1 (jt_val (je_isi (T := .bl) J.jc (by rfl) G.isinstance (jv_var (pv 1)) (pe_bltn (by rfl) G.bool (by rfl) (by rfl))))))) (js_one (js_ret (je_and (je_isi (T := .bl) J.jc (by rfl) G.isinstance (jv_var (pv 0)) (pe_bltn (by rfl) G.bool (by rfl) (by rfl))) (je_and (je_isi (T := .bl) J.jc (by rfl) G.isinstance (jv_var (pv 1)) (pe_bltn (by rfl) G.bool (by rfl) (by rfl))) (je_one (je_cmp J.jc (o_eq J.u64) (je_var (pv 0)) (jv_var (pv 1)) (by rfl))))))) js_nil) (js_cons (js_if (jt_val (je_isi (T := .int) J.jc (by rfl) G.isinstance (jv_var (pv 1)) (pe_bltn (by rfl) G.int (by rfl) (by rfl)))) (js_one (js_ret (je_and (je_isi (T := .int) J.jc (by rfl) G.isinstance (jv_var (pv 0)) (pe_bltn (by rfl) G.int (by rfl) (by rfl))) (je_one (je_cmp J.jc (o_eq J.u64) (je_var (pv 0)) (jv_var (pv 1)) (by rfl)))))) js_nil) (js_one (js_ret (je_and (je_isi (T := .str) J.jc (by rfl) G.isinstance (jv_var (pv 0)) (pe_bltn (by rfl) G.str (by rfl) (by rfl))) (je_and (je_isi (T := .str) J.jc (by rfl) G.isinstance (jv_var (pv 1)) (pe_bltn (by rfl) G.str (by rfl) (by rfl))) (je_one (je_cmp J.jc (o_eq J.u64) (je_var (pv 0)) (jv_var (pv 1)) (by rfl))))))))))
theorem w__law_same {P0 : Program} {w : World} {K : PySem.W.Frag} {mg : Str → Option Value} {base : Heap} {f fI : Addr} (G : Glob mg) (ER : ErrsOk K mg ers errSub fI) (f__law_same_plain : FnI P0 w K mg base 1 "_law_same_plain" ["x", "y"] S._law_same_plain)
    (cdv : Value) (A : Around) (outer : List PySem.Env) (s : Shared) (H : Hp) (E : XK) (C : Pr) (J : JX (cxOf (L2.CX P0 w) P0 w K mg base N__law_same "_law_same" (defScope s__law_same) f cdv A outer s H E) C 1) :
    PSs (cxOf (L2.CX P0 w) P0 w K mg base N__law_same "_law_same" (defScope s__law_same) f cdv A outer s H E) (defBody s__law_same) (lS C r__law_same) := by
  have nd : N__law_same.Nodup := by decide +kernel
  exact (js_cons (js_set (i := 2) nd rfl (by first | exact .inl rfl | exact .inr rfl) (je_lst (ja_cons (je_tup (ja_cons (je_var (pv 0)) (ja_cons (je_var (pv 1)) ja_nil))) ja_nil))) (js_cons (js_for J.po J.calm (ji_rng1 (by rfl) G.range (ja_cons je_int ja_nil)) (jg_name nd rfl (by first | exact .inl rfl | exact .inr rfl)) (js_cons (js_if (jt_not (jt_tru J.jc (jv_var (pv 2)))) (js_one (js_ret je_bl)) js_nil) (js_cons (js_asg (je_mut0 J.jc PySem.F.slot_list_pop PySem.F.type_list_pop m_pop (pv 2)) (jg_tup (n := 2) J.jc J.calm (jgs_cons (jg_name nd rfl (by first | exact .inl rfl | exact .inr rfl)) (jgs_cons (jg_name nd rfl (by first | exact .inl rfl | exact .inr rfl)) jgs_nil)) (gs_len gN_ex (gs_len gN_ex gs_len0)))) (js_one (js_if (jt_val (je_isiT J.jc (by rfl) G.isinstance (jv_var (pv 5)) (tyrow_cons (T := .lst) (pe_bltn (by rfl) G.list (by rfl) (by rfl)) (tyrow_cons (T := .tup) (pe_bltn (by rfl) G.tuple (by rfl) (by rfl)) tyrow_nil)) (by decide))) (js_cons (js_if (jt_pw (jw_or (jt_cmp J.jc (o_ne J.u64) (je_isi (T := .lst) J.jc (by rfl) G.isinstance (jv_var (pv 4)) (pe_bltn (by rfl) G.list (by rfl) (by rfl))) (jv_of (je_isi (T := .lst) J.jc (by rfl) G.isinstance (jv_var (pv 5)) (pe_bltn (by rfl) G.list (by rfl) (by rfl)))) (by rfl)) (jw_or1 (jt_cmp J.jc (o_ne J.u64) (je_isi (T := .tup) J.jc (by rfl) G.isinstance (jv_var (pv 4)) (pe_bltn (by rfl) G.tuple (by rfl) (by rfl))) (jv_of (je_isi (T := .tup) J.jc (by rfl) G.isinstance (jv_var (pv 5)) (pe_bltn (by rfl) G.tuple (by rfl) (by rfl)))) (by rfl))))) (js_one (js_ret je_bl)) js_nil) (js_cons (js_if (jt_cmp J.jc (o_ne J.u64) (je_cb J.jc c_len (by rfl) G.len (by rfl) (ja_one (g := daNil) (jv_var (pv 4)))) (jv_of (je_cb J.jc c_len (by rfl) G.len (by rfl) (ja_one (g := daNil) (jv_var (pv 5))))) (by rfl)) (js_one (js_ret je_bl)) js_nil) (js_one (js_for J.po J.calm (ji_rng1 (by rfl) G.range (ja_cons (je_cb J.jc c_len (by rfl) G.len (by rfl) (ja_one (g := daNil) (jv_var (pv 5)))) ja_nil)) (jg_name nd rfl (by first | exact .inl rfl | exact .inr rfl)) (js_one (js_expr (je_mut J.jc PySem.F.slot_list_append PySem.F.type_list_append m_append (pv 2) (ja_cons (je_tup (ja_cons (je_ixV J.jc (pv 4) (je_var (pv 6))) (ja_cons (je_ixV J.jc (pv 5) (je_var (pv 6))) ja_nil))) ja_nil)))))))) (js_one (js_if (jt_val (je_isi (T := .dic) J.jc (by rfl) G.isinstance (jv_var (pv 5)) (pe_bltn (by rfl) G.dict (by rfl) (by rfl)))) (js_cons (js_if (jt_pw (jw_or (jt_not (jt_val (je_isi (T := .dic) J.jc (by rfl) G.isinstance (jv_var (pv 4)) (pe_bltn (by rfl) G.dict (by rfl) (by rfl))))) (jw_or1 (jt_cmp J.jc (o_ne J.u64) (je_cb J.jc c_len (by rfl) G.len (by rfl) (ja_one (g := daNil) (jv_var (pv 4)))) (jv_of (je_cb J.jc c_len (by rfl) G.len (by rfl) (ja_one (g := daNil) (jv_var (pv 5))))) (by rfl))))) (js_one (js_ret je_bl)) js_nil) (js_cons (js_expr (je_mut J.jc PySem.F.slot_list_append PySem.F.type_list_append m_append (pv 2) (ja_cons (je_tup (ja_cons (je_cty J.jc (c_list J.calm) (by rfl) G.list (by rfl) (ja_one (g := daNil) (jv_var (pv 4)))) (ja_cons (je_cty J.jc (c_list J.calm) (by rfl) G.list (by rfl) (ja_one (g := daNil) (jv_var (pv 5)))) ja_nil))) ja_nil))) (js_one (js_for J.po J.calm (ji_val J.jc (je_var (pv 5))) (jg_name nd rfl (by first | exact .inl rfl | exact .inr rfl)) (js_cons (js_if (jt_cmp J.jc (o_notin J.u65) (je_var (pv 7)) (jv_var (pv 4)) (by rfl)) (js_one (js_ret je_bl)) js_nil) (js_one (js_expr (je_mut J.jc PySem.F.slot_list_append PySem.F.type_list_append m_append (pv 2) (ja_cons (je_tup (ja_cons (je_ixV J.jc (pv 4) (je_var (pv 7))) (ja_cons (je_ixV J.jc (pv 5) (je_var (pv 7))) ja_nil))) ja_nil))))))))) (js_one (js_if (jt_not (jt_val (jf J.jc f__law_same_plain (J.room.mono (by decide)) (by rfl) (ja_cons (je_var (pv 4)) (ja_cons (je_var (pv 5)) ja_nil))))) (js_one (js_ret je_bl)) js_nil))))))))) (js_one (js_ret je_bl))))
theorem w__law_sign {P0 : Program} {w : World} {K : PySem.W.Frag} {mg : Str → Option Value} {base : Heap} {f fI : Addr} (G : Glob mg) (ER : ErrsOk K mg ers errSub fI)
    (cdv : Value) (A : Around) (outer : List PySem.Env) (s : Shared) (H : Hp) (E : XK) (C : Pr) (J : JX (cxOf (L2.CX P0 w) P0 w K mg base N__law_sign "_law_sign" (defScope s__law_sign) f cdv A outer s H E) C 0) :
    PSs (cxOf (L2.CX P0 w) P0 w K mg base N__law_sign "_law_sign" (defScope s__law_sign) f cdv A outer s H E) (defBody s__law_sign) (lS C r__law_sign) := by
  have nd : N__law_sign.Nodup := by decide +kernel
  exact (js_cons (js_if (jt_cmp J.jc (o_eq J.u64) (je_var (pv 0)) (jv_var (pv 1)) (by rfl)) (js_one (js_ret je_int)) js_nil) (js_one (js_ret (je_ifE (jt_cmp J.jc o_gt (je_var (pv 0)) (jv_var (pv 1)) (by rfl)) je_int je_int))))
theorem w__law_shown {P0 : Program} {w : World} {K : PySem.W.Frag} {mg : Str → Option Value} {base : Heap} {f fI : Addr} (G : Glob mg) (ER : ErrsOk K mg ers errSub fI) (f__law_sign : FnI P0 w K mg base 1 "_law_sign" ["x", "y"] S._law_sign)
    (cdv : Value) (A : Around) (outer : List PySem.Env) (s : Shared) (H : Hp) (E : XK) (C : Pr) (J : JX (cxOf (L2.CX P0 w) P0 w K mg base N__law_shown "_law_shown" (defScope s__law_shown) f cdv A outer s H E) C 1) :
    PSs (cxOf (L2.CX P0 w) P0 w K mg base N__law_shown "_law_shown" (defScope s__law_shown) f cdv A outer s H E) (defBody s__law_shown) (lS C r__law_shown) := by
  have nd : N__law_shown.Nodup := by decide +kernel
  exact (js_cons (js_set (i := 2) nd rfl (by first | exact .inl rfl | exact .inr rfl) (je_lst ja_nil)) (js_cons (js_for J.po J.calm (ji_rng1 (by rfl) G.range (ja_cons je_int ja_nil)) (jg_name nd rfl (by first | exact .inl rfl | exact .inr rfl)) (js_one (js_for J.po J.calm (ji_rng1 (by rfl) G.range (ja_cons je_int ja_nil)) (jg_name nd rfl (by first | exact .inl rfl | exact .inr rfl)) (js_one (js_for J.po J.calm (ji_rng1 (by rfl) G.range (ja_cons je_int ja_nil)) (jg_name nd rfl (by first | exact .inl rfl | exact .inr rfl)) (js_cons (js_set (i := 6) nd rfl (by first | exact .inl rfl | exact .inr rfl) (jf J.jc f__law_sign (J.room.mono (by decide)) (by rfl) (ja_cons (je_var (pv 3)) (ja_cons (je_var (pv 5)) ja_nil)))) (js_one (js_if (jt_pw (jw_and (jt_cmp J.jc (o_eq J.u64) (jf J.jc f__law_sign (J.room.mono (by decide)) (by rfl) (ja_cons (je_var (pv 3)) (ja_cons (je_var (pv 4)) ja_nil))) (jv_var (pv 0)) (by rfl)) (jw_and (jt_cmp J.jc (o_eq J.u64) (jf J.jc f__law_sign (J.room.mono (by decide)) (by rfl) (ja_cons (je_var (pv 4)) (ja_cons (je_var (pv 5)) ja_nil))) (jv_var (pv 1)) (by rfl)) (jw_and1 (jt_cmp J.jc (o_notin J.u65) (je_var (pv 6)) (jv_var (pv 2)) (by rfl)))))) (js_one (js_expr (je_mut J.jc PySem.F.slot_list_append PySem.F.type_list_append m_append (pv 2) (ja_cons (je_var (pv 6)) ja_nil)))) js_nil)))))))) (js_one (js_retv (pv 2)))))
theorem w__law_signs {P0 : Program} {w : World} {K : PySem.W.Frag} {mg : Str → Option Value} {base : Heap} {f fI : Addr} (G : Glob mg) (ER : ErrsOk K mg ers errSub fI) (f__law_shown : FnI P0 w K mg base 2 "_law_shown" ["sign", "other"] S._law_shown) (f__law_sign_in : FnI P0 w K mg base 1 "_law_sign_in" ["case", "field"] S._law_sign_in)
    (cdv : Value) (A : Around) (outer : List PySem.Env) (s : Shared) (H : Hp) (E : XK) (C : Pr) (J : JX (cxOf (L2.CX P0 w) P0 w K mg base N__law_signs "_law_signs" (defScope s__law_signs) f cdv A outer s H E) C 2) :
    PSs (cxOf (L2.CX P0 w) P0 w K mg base N__law_signs "_law_signs" (defScope s__law_signs) f cdv A outer s H E) (defBody s__law_signs) (lS C r__law_signs) := by
  have nd : N__law_signs.Nodup := by decide +kernel
  exact (js_one (js_ret (je_lc J.jc J.calm nd (ji_val J.jc (je_var (pv 0))) (L2.blkOk_by (own := [("field", 3)]) (by kernel_rfl)) (by decide) (fun _ _ _ _ _ => (jg_name nd rfl (by first | exact .inl rfl | exact .inr rfl) (by first | exact .inl rfl | exact .inr rfl))) (fun _ _ _ _ _ => jts_nil) (fun _ _ _ _ _ => (jf (jc_blk J.jc) f__law_shown (J.room.mono (by decide)) (by rfl) (ja_cons (jf (jc_blk J.jc) f__law_sign_in (J.room.mono (by decide)) (by rfl) (ja_cons (je_var (pv 1)) (ja_cons (je_var (pv 3)) ja_nil))) (ja_cons (jf (jc_blk J.jc) f__law_sign_in (J.room.mono (by decide)) (by rfl) (ja_cons (je_var (pv 2)) (ja_cons (je_var (pv 3)) ja_nil))) ja_nil)))))))
theorem w__law_round {P0 : Program} {w : World} {K : PySem.W.Frag} {mg : Str → Option Value} {base : Heap} {f fI : Addr} (G : Glob mg) (ER : ErrsOk K mg ers errSub fI) (f__law_all_met : FnI P0 w K mg base 3 "_law_all_met" ["fields", "signs", "answer"] S._law_all_met) (f__law_asked : FnI P0 w K mg base 7 "_law_asked" ["which", "fields", "one", "two", "third"] S._law_asked) (f__law_fits : FnI P0 w K mg base 2 "_law_fits" ["fields", "signs", "case"] S._law_fits) (f__law_refusal : FnI P0 w K mg base 3 "_law_refusal" ["which", "fields", "one", "two", "third"] S._law_refusal) (f__law_same : FnI P0 w K mg base 2 "_law_same" ["answer", "due"] S._law_same) (f__law_signs : FnI P0 w K mg base 3 "_law_signs" ["fields", "one", "two"] S._law_signs)
    (cdv : Value) (A : Around) (outer : List PySem.Env) (s : Shared) (H : Hp) (E : XK) (C : Pr) (J : JX (cxOf (L2.CX P0 w) P0 w K mg base N__law_round "_law_round" (defScope s__law_round) f cdv A outer s H E) C 7) :
    PSs (cxOf (L2.CX P0 w) P0 w K mg base N__law_round "_law_round" (defScope s__law_round) f cdv A outer s H E) (defBody s__law_round) (lS C r__law_round) := by
  have nd : N__law_round.Nodup := by decide +kernel
  exact (js_cons (js_set (i := 5) nd rfl (by first | exact .inl rfl | exact .inr rfl) (jf J.jc f__law_asked (J.room.mono (by decide)) (by rfl) (ja_cons (je_var (pv 0)) (ja_cons (je_var (pv 1)) (ja_cons (je_var (pv 2)) (ja_cons (je_var (pv 3)) (ja_cons (je_var (pv 4)) ja_nil))))))) (js_cons (js_set (i := 6) nd rfl (by first | exact .inl rfl | exact .inr rfl) (jf J.jc f__law_refusal (J.room.mono (by decide)) (by rfl) (ja_cons (je_var (pv 0)) (ja_cons (je_var (pv 1)) (ja_cons (je_var (pv 2)) (ja_cons (je_var (pv 3)) (ja_cons (je_var (pv 4)) ja_nil))))))) (js_cons (js_if (jt_cmp J.jc (o_ne J.u64) (je_var (pv 6)) (jv_of (je_tup ja_nil)) (by rfl)) (js_one (js_ret (jf J.jc f__law_same (J.room.mono (by decide)) (by rfl) (ja_cons (je_var (pv 5)) (ja_cons (je_var (pv 6)) ja_nil))))) js_nil) (js_cons (js_set (i := 7) nd rfl (by first | exact .inl rfl | exact .inr rfl) (jf J.jc f__law_signs (J.room.mono (by decide)) (by rfl) (ja_cons (je_var (pv 1)) (ja_cons (je_var (pv 2)) (ja_cons (je_var (pv 3)) ja_nil))))) (js_cons (js_if (jt_cmp J.jc (o_eq J.u64) (je_var (pv 0)) (jv_of je_int) (by rfl)) (js_one (js_ret (jf J.jc f__law_same (J.room.mono (by decide)) (by rfl) (ja_cons (je_var (pv 5)) (ja_cons (je_tup (ja_cons je_str (ja_cons (jf J.jc f__law_fits (J.room.mono (by decide)) (by rfl) (ja_cons (je_var (pv 1)) (ja_cons (je_var (pv 7)) (ja_cons (je_var (pv 4)) ja_nil)))) ja_nil))) ja_nil))))) js_nil) (js_one (js_ret (je_and (je_cmp J.jc (o_eq J.u64) (je_ixV J.jc (pv 5) je_int) (jv_of je_str) (by rfl)) (je_one (jf J.jc f__law_all_met (J.room.mono (by decide)) (by rfl) (ja_cons (je_var (pv 1)) (ja_cons (je_var (pv 7)) (ja_cons (je_ixV J.jc (pv 5) je_int) ja_nil)))))))))))))
theorem w__law_mix {P0 : Program} {w : World} {K : PySem.W.Frag} {mg : Str → Option Value} {base : Heap} {f fI : Addr} (G : Glob mg) (ER : ErrsOk K mg ers errSub fI)
    (cdv : Value) (A : Around) (outer : List PySem.Env) (s : Shared) (H : Hp) (E : XK) (C : Pr) (J : JX (cxOf (L2.CX P0 w) P0 w K mg base N__law_mix "_law_mix" (defScope s__law_mix) f cdv A outer s H E) C 0) :
    PSs (cxOf (L2.CX P0 w) P0 w K mg base N__law_mix "_law_mix" (defScope s__law_mix) f cdv A outer s H E) (defBody s__law_mix) (lS C r__law_mix) := by
  have nd : N__law_mix.Nodup := by decide +kernel
  exact (js_cons (js_set (i := 1) nd rfl (by first | exact .inl rfl | exact .inr rfl) (je_op J.jc o_mod (je_cty J.jc c_int (by rfl) G.int (by rfl) (ja_one (g := daNil) (jv_of (je_op J.jc o_add (je_op J.jc o_mul2 (je_var (pv 0)) (jv_of je_int)) (jv_of je_int))))) (jv_of je_int))) (js_cons (js_for J.po J.calm (ji_rng1 (by rfl) G.range (ja_cons je_int ja_nil)) (jg_name nd rfl (by first | exact .inl rfl | exact .inr rfl)) (js_one (js_set (i := 1) nd rfl (by first | exact .inl rfl | exact .inr rfl) (je_op J.jc o_mod (je_cty J.jc c_int (by rfl) G.int (by rfl) (ja_one (g := daNil) (jv_of (je_op J.jc o_mul2 (je_op J.jc o_add (je_var (pv 1)) (jv_of (je_op J.jc o_div (je_var (pv 1)) (jv_of je_int)))) (jv_of (je_op J.jc o_add (je_op J.jc o_mod (je_var (pv 1)) (jv_of je_int)) (jv_of je_int))))))) (jv_of je_int))))) (js_one (js_ret (je_op J.jc o_div (je_var (pv 1)) (jv_of je_int))))))
theorem w__law_store {P0 : Program} {w : World} {K : PySem.W.Frag} {mg : Str → Option Value} {base : Heap} {f fI : Addr} (G : Glob mg) (ER : ErrsOk K mg ers errSub fI) (f__law_mix : FnI P0 w K mg base 1 "_law_mix" ["number"] S._law_mix)
    (cdv : Value) (A : Around) (outer : List PySem.Env) (s : Shared) (H : Hp) (E : XK) (C : Pr) (J : JX (cxOf (L2.CX P0 w) P0 w K mg base N__law_store "_law_store" (defScope s__law_store) f cdv A outer s H E) C 1) :
    PSs (cxOf (L2.CX P0 w) P0 w K mg base N__law_store "_law_store" (defScope s__law_store) f cdv A outer s H E) (defBody s__law_store) (lS C r__law_store) := by
  have nd : N__law_store.Nodup := by decide +kernel
  exact (js_cons (js_set (i := 1) nd rfl (by first | exact .inl rfl | exact .inr rfl) (je_cb J.jc c_len (by rfl) G.len (by rfl) (ja_one (g := daNil) (jv_var (pv 0))))) (js_cons (js_for J.po J.calm (ji_val J.jc (je_var (pv 0))) (jg_name nd rfl (by first | exact .inl rfl | exact .inr rfl)) (js_one (js_set (i := 1) nd rfl (by first | exact .inl rfl | exact .inr rfl) (je_op J.jc o_mod (je_cty J.jc c_int (by rfl) G.int (by rfl) (ja_one (g := daNil) (jv_of (je_op J.jc o_add (je_op J.jc o_add (je_op J.jc o_mul2 (je_var (pv 1)) (jv_of je_int)) (jv_of (je_op J.jc o_mod (je_cty J.jc c_int (by rfl) G.int (by rfl) (ja_one (g := daNil) (jv_var (pv 2)))) (jv_of je_int)))) (jv_of je_int))))) (jv_of je_int))))) (js_one (js_ret (je_disp (pairs_cons (key := (Sum.inr "cells")) je_str (je_cty J.jc (c_list J.calm) (by rfl) G.list (by rfl) (ja_one (g := daNil) (jv_var (pv 0)))) (pairs_cons (key := (Sum.inr "at")) je_str je_int (pairs_cons (key := (Sum.inr "rest")) je_str je_int (pairs_cons (key := (Sum.inr "turn")) je_str je_int (pairs_cons (key := (Sum.inr "seed")) je_str (jf J.jc f__law_mix (J.room.mono (by decide)) (by rfl) (ja_cons (je_var (pv 1)) ja_nil)) pairs_nil))))) rfl rfl (by simp) (by decide) (by decide))))))
theorem w__law_less {P0 : Program} {w : World} {K : PySem.W.Frag} {mg : Str → Option Value} {base : Heap} {f fI : Addr} (G : Glob mg) (ER : ErrsOk K mg ers errSub fI)
    (cdv : Value) (A : Around) (outer : List PySem.Env) (s : Shared) (H : Hp) (E : XK) (C : Pr) (J : JX (cxOf (L2.CX P0 w) P0 w K mg base N__law_less "_law_less" (defScope s__law_less) f cdv A outer s H E) C 0) :
    PSs (cxOf (L2.CX P0 w) P0 w K mg base N__law_less "_law_less" (defScope s__law_less) f cdv A outer s H E) (defBody s__law_less) (lS C r__law_less) := by
  have nd : N__law_less.Nodup := by decide +kernel
  exact (js_one (js_ret (je_join J.jc je_str (jv_of (je_lc J.jc J.calm nd (ji_val J.jc (je_var (pv 0))) (L2.blkOk_by (own := [("field", 2)]) (by kernel_rfl)) (by decide) (fun _ _ _ _ _ => (jg_name nd rfl (by first | exact .inl rfl | exact .inr rfl) (by first | exact .inl rfl | exact .inr rfl))) (fun _ _ _ _ _ => (jts_one (jt_cmp (jc_blk J.jc) (o_notin J.u65) (je_var (pv 2)) (jv_var (pv 1)) (by rfl)))) (fun _ _ _ _ _ => (je_var (pv 2))))))))
theorem w__law_take {P0 : Program} {w : World} {K : PySem.W.Frag} {mg : Str → Option Value} {base : Heap} {f fI : Addr} (G : Glob mg) (ER : ErrsOk K mg ers errSub fI) (f__law_mix : FnI P0 w K mg base 1 "_law_mix" ["number"] S._law_mix)
    (cdv : Value) (A : Around) (outer : List PySem.Env) (s : Shared) (H : Hp) (E : XK) (C : Pr) (J : JX (cxOf (L2.CX P0 w) P0 w K mg base N__law_take "_law_take" (defScope s__law_take) f cdv A outer s H E) C 1) :
    PSs (cxOf (L2.CX P0 w) P0 w K mg base N__law_take "_law_take" (defScope s__law_take) f cdv A outer s H E) (defBody s__law_take) (lS C r__law_take) := by
  have nd : N__law_take.Nodup := by decide +kernel
  exact (js_cons (js_if (jt_cmp J.jc (o_ltD J.u64) (je_var (pv 1)) (jv_of je_int) (by rfl)) (js_one (js_ret je_int)) js_nil) (js_cons (js_set (i := 2) nd rfl (by first | exact .inl rfl | exact .inr rfl) (je_getV J.jc J.u1 (pv 0) je_str)) (js_cons (js_set (i := 3) nd rfl (by first | exact .inl rfl | exact .inr rfl) je_int) (js_cons (js_if (jt_pw (jw_and (jt_cmp J.jc (o_eq J.u64) (je_getV J.jc J.u1 (pv 0) je_str) (jv_of je_int) (by rfl)) (jw_and1 (jt_cmp J.jc (o_ltD J.u64) (je_getV J.jc J.u1 (pv 0) je_str) (jv_of (je_cb J.jc c_len (by rfl) G.len (by rfl) (ja_one (g := daNil) (jv_var (pv 2))))) (by rfl))))) (js_cons (js_set (i := 4) nd rfl (by first | exact .inl rfl | exact .inr rfl) (je_cty J.jc c_int (by rfl) G.int (by rfl) (ja_one (g := daNil) (jv_of (je_ixV J.jc (pv 2) (je_getV J.jc J.u1 (pv 0) je_str)))))) (js_cons (js_put J.jc J.u1 (pv 0) je_str (je_op J.jc o_add (je_getV J.jc J.u1 (pv 0) je_str) (jv_of je_int))) (js_one (js_if (jt_cmp J.jc o_ge (je_var (pv 4)) (jv_of (je_op J.jc o_pow je_int (jv_of je_int))) (by rfl)) (js_one (js_put J.jc J.u1 (pv 0) je_str (je_op J.jc o_mod (je_var (pv 4)) (jv_of (je_op J.jc o_mul2 (je_op J.jc o_mul2 (je_op J.jc o_mul2 (je_op J.jc o_pow je_int (jv_of je_int)) (jv_of (je_op J.jc o_pow je_int (jv_of je_int)))) (jv_of (je_op J.jc o_pow je_int (jv_of je_int)))) (jv_of (je_op J.jc o_pow je_int (jv_of je_int)))))))) (js_one (js_set (i := 3) nd rfl (by first | exact .inl rfl | exact .inr rfl) (je_op J.jc o_add je_int (jv_of (je_op J.jc o_mod (je_var (pv 4)) (jv_of je_int)))))))))) js_nil) (js_cons (js_set (i := 5) nd rfl (by first | exact .inl rfl | exact .inr rfl) (je_cty J.jc c_int (by rfl) G.int (by rfl) (ja_one (g := daNil) (jv_of (je_getV J.jc J.u1 (pv 0) je_str))))) (js_cons (js_if (jt_cmp J.jc o_gt (je_var (pv 5)) (jv_of je_int) (by rfl)) (js_cons (js_put J.jc J.u1 (pv 0) je_str (je_op J.jc o_div (je_var (pv 5)) (jv_var (pv 1)))) (js_one (js_ret (je_op J.jc o_mod (je_var (pv 5)) (jv_var (pv 1)))))) js_nil) (js_cons (js_put J.jc J.u1 (pv 0) je_str (je_op J.jc o_add (je_getV J.jc J.u1 (pv 0) je_str) (jv_of je_int))) (js_one (js_ret (je_op J.jc o_mod (je_cty J.jc c_int (by rfl) G.int (by rfl) (ja_one (g := daNil) (jv_of (jf J.jc f__law_mix (J.room.mono (by decide)) (by rfl) (ja_cons (je_op J.jc o_add (je_op J.jc o_add (je_getV J.jc J.u1 (pv 0) je_str) (jv_of (je_op J.jc o_mul2 (je_getV J.jc J.u1 (pv 0) je_str) (jv_of je_int)))) (jv_of (je_op J.jc o_mul2 (je_var (pv 3)) (jv_of je_int)))) ja_nil))))) (jv_var (pv 1))))))))))))
theorem w__law_pick {P0 : Program} {w : World} {K : PySem.W.Frag} {mg : Str → Option Value} {base : Heap} {f fI : Addr} (G : Glob mg) (ER : ErrsOk K mg ers errSub fI) (f__law_take : FnI P0 w K mg base 2 "_law_take" ["store", "many"] S._law_take)
    (cdv : Value) (A : Around) (outer : List PySem.Env) (s : Shared) (H : Hp) (E : XK) (C : Pr) (J : JX (cxOf (L2.CX P0 w) P0 w K mg base N__law_pick "_law_pick" (defScope s__law_pick) f cdv A outer s H E) C 2) :
    PSs (cxOf (L2.CX P0 w) P0 w K mg base N__law_pick "_law_pick" (defScope s__law_pick) f cdv A outer s H E) (defBody s__law_pick) (lS C r__law_pick) := by
  have nd : N__law_pick.Nodup := by decide +kernel
  exact (js_one (js_ret (je_ixV J.jc (pv 1) (jfB J.jc f__law_take (J.room.mono (by decide)) (by rfl) (pv 0) (ja_cons (je_cb J.jc c_len (by rfl) G.len (by rfl) (ja_one (g := daNil) (jv_var (pv 1)))) ja_nil)))))
theorem w__law_lot {P0 : Program} {w : World} {K : PySem.W.Frag} {mg : Str → Option Value} {base : Heap} {f fI : Addr} (G : Glob mg) (ER : ErrsOk K mg ers errSub fI) (f__law_pick : FnI P0 w K mg base 3 "_law_pick" ["store", "things"] S._law_pick) (f__law_take : FnI P0 w K mg base 2 "_law_take" ["store", "many"] S._law_take)
    (cdv : Value) (A : Around) (outer : List PySem.Env) (s : Shared) (H : Hp) (E : XK) (C : Pr) (J : JX (cxOf (L2.CX P0 w) P0 w K mg base N__law_lot "_law_lot" (defScope s__law_lot) f cdv A outer s H E) C 3) :
    PSs (cxOf (L2.CX P0 w) P0 w K mg base N__law_lot "_law_lot" (defScope s__law_lot) f cdv A outer s H E) (defBody s__law_lot) (lS C r__law_lot) := by
  have nd : N__law_lot.Nodup := by decide +kernel
  exact (js_cons (js_set (i := 2) nd rfl (by first | exact .inl rfl | exact .inr rfl) (jfB J.jc f__law_take (J.room.mono (by decide)) (by rfl) (pv 0) (ja_cons je_int ja_nil))) (js_cons (js_if (jt_cmp J.jc (o_eq J.u64) (je_var (pv 2)) (jv_of je_int) (by rfl)) (js_one (js_ret je_str)) js_nil) (js_cons (js_if (jt_cmp J.jc (o_eq J.u64) (je_var (pv 2)) (jv_of je_int) (by rfl)) (js_one (js_retv (pv 1))) js_nil) (js_cons (js_if (jt_pw (jw_and (jt_cmp J.jc (o_eq J.u64) (je_var (pv 2)) (jv_of je_int) (by rfl)) (jw_and1 (jt_cmp J.jc (o_ne J.u64) (je_var (pv 1)) (jv_of je_str) (by rfl))))) (js_one (js_ret (jfB J.jc f__law_pick (J.room.mono (by decide)) (by rfl) (pv 0) (ja_cons (je_var (pv 1)) ja_nil)))) js_nil) (js_one (js_ret (je_join J.jc je_str (jv_of (je_lc J.jc J.calm nd (ji_val J.jc (je_var (pv 1))) (L2.blkOk_by (own := [("field", 3)]) (by kernel_rfl)) (by decide) (fun _ _ _ _ _ => (jg_name nd rfl (by first | exact .inl rfl | exact .inr rfl) (by first | exact .inl rfl | exact .inr rfl))) (fun _ _ _ _ _ => (jts_one (jt_cmp (jc_blk J.jc) (o_eq J.u64) (jfB (jc_blk J.jc) f__law_take (J.room.mono (by decide)) (by rfl) (pv 0) (ja_cons je_int ja_nil)) (jv_of je_int) (by rfl)))) (fun _ _ _ _ _ => (je_var (pv 3))))))))))))
theorem w__law_bad_lot {P0 : Program} {w : World} {K : PySem.W.Frag} {mg : Str → Option Value} {base : Heap} {f fI : Addr} (G : Glob mg) (ER : ErrsOk K mg ers errSub fI) (f__law_less : FnI P0 w K mg base 1 "_law_less" ["one", "two"] S._law_less) (f__law_lot : FnI P0 w K mg base 4 "_law_lot" ["store", "fields"] S._law_lot) (f__law_pick : FnI P0 w K mg base 3 "_law_pick" ["store", "things"] S._law_pick) (f__law_take : FnI P0 w K mg base 2 "_law_take" ["store", "many"] S._law_take)
    (cdv : Value) (A : Around) (outer : List PySem.Env) (s : Shared) (H : Hp) (E : XK) (C : Pr) (J : JX (cxOf (L2.CX P0 w) P0 w K mg base N__law_bad_lot "_law_bad_lot" (defScope s__law_bad_lot) f cdv A outer s H E) C 4) :
    PSs (cxOf (L2.CX P0 w) P0 w K mg base N__law_bad_lot "_law_bad_lot" (defScope s__law_bad_lot) f cdv A outer s H E) (defBody s__law_bad_lot) (lS C r__law_bad_lot) := by
  have nd : N__law_bad_lot.Nodup := by decide +kernel
  exact (js_cons (js_set (i := 2) nd rfl (by first | exact .inl rfl | exact .inr rfl) (jfB J.jc f__law_take (J.room.mono (by decide)) (by rfl) (pv 0) (ja_cons je_int ja_nil))) (js_cons (js_set (i := 3) nd rfl (by first | exact .inl rfl | exact .inr rfl) (jfB J.jc f__law_pick (J.room.mono (by decide)) (by rfl) (pv 0) (ja_cons (je_var (pv 1)) ja_nil))) (js_cons (js_set (i := 4) nd rfl (by first | exact .inl rfl | exact .inr rfl) (jfB J.jc f__law_lot (J.room.mono (by decide)) (by rfl) (pv 0) (ja_cons (je_var (pv 1)) ja_nil))) (js_cons (js_if (jt_cmp J.jc (o_eq J.u64) (je_var (pv 2)) (jv_of je_int) (by rfl)) (js_one (js_ret (je_join J.jc je_str (jv_of (je_cb J.jc (c_sorted J.calm J.u80) (by rfl) G.sorted (by rfl) (ja_one (g := daNil) (jv_of (je_op J.jc o_add (je_op J.jc o_add (je_var (pv 4)) (jv_var (pv 3))) (jv_var (pv 3)))))))))) js_nil) (js_cons (js_if (jt_pw (jw_and (jt_cmp J.jc (o_eq J.u64) (je_var (pv 2)) (jv_of je_int) (by rfl)) (jw_and1 (jt_cmp J.jc o_gt (je_cb J.jc c_len (by rfl) G.len (by rfl) (ja_one (g := daNil) (jv_var (pv 1)))) (jv_of je_int) (by rfl))))) (js_cons (js_set (i := 5) nd rfl (by first | exact .inl rfl | exact .inr rfl) (je_op J.jc o_add je_int (jv_of (jfB J.jc f__law_take (J.room.mono (by decide)) (by rfl) (pv 0) (ja_cons (je_op J.jc o_sub (je_cb J.jc c_len (by rfl) G.len (by rfl) (ja_one (g := daNil) (jv_var (pv 1)))) (jv_of je_int)) ja_nil))))) (js_one (js_ret (je_op J.jc o_add (je_ixV J.jc (pv 1) (je_var (pv 5))) (jv_of (je_sl J.jc (je_var (pv 1)) jo_none (jo_some (je_var (pv 5))))))))) js_nil) (js_cons (js_if (jt_pw (jw_and (jt_cmp J.jc (o_eq J.u64) (je_var (pv 2)) (jv_of je_int) (by rfl)) (jw_and1 (jt_cmp J.jc (o_ltD J.u64) (je_cb J.jc c_len (by rfl) G.len (by rfl) (ja_one (g := daNil) (jv_var (pv 1)))) (jv_of je_int) (by rfl))))) (js_cons (js_setLc (i := 6) J.jc J.calm nd rfl rfl (L2.sw_true rfl rfl rfl (by decide +kernel)) (ji_val J.jc je_str) (L2.blkOk_by (own := [("letter", 7)]) (by kernel_rfl)) (by decide) (fun _ _ _ _ _ => (jg_name nd rfl (by first | exact .inl rfl | exact .inr rfl) (by first | exact .inl rfl | exact .inr rfl))) (fun _ _ _ _ _ => (jts_one (jt_cmp (jc_blk J.jc) (o_notin J.u65) (je_var (pv 7)) (jv_var (pv 1)) (by rfl)))) (fun _ _ _ _ _ => (je_var (pv 7)))) (js_one (js_ret (je_join J.jc je_str (jv_of (je_cb J.jc (c_sorted J.calm J.u80) (by rfl) G.sorted (by rfl) (ja_one (g := daNil) (jv_of (je_op J.jc o_add (je_var (pv 4)) (jv_of (jfB J.jc f__law_pick (J.room.mono (by decide)) (by rfl) (pv 0) (ja_cons (je_var (pv 6)) ja_nil)))))))))))) js_nil) (js_cons (js_if (jt_cmp J.jc (o_eq J.u64) (je_var (pv 2)) (jv_of je_int) (by rfl)) (js_one (js_ret (je_op J.jc o_add (jf J.jc f__law_less (J.room.mono (by decide)) (by rfl) (ja_cons (je_var (pv 4)) (ja_cons (je_var (pv 3)) ja_nil))) (jv_of (je_upper J.jc (je_var (pv 3))))))) js_nil) (js_cons (js_if (jt_cmp J.jc (o_eq J.u64) (je_var (pv 2)) (jv_of je_int) (by rfl)) (js_one (js_ret (je_op J.jc o_add (je_op J.jc o_add (je_sl J.jc (je_var (pv 4)) jo_none (jo_some je_int)) (jv_of je_str)) (jv_of (je_sl J.jc (je_var (pv 4)) (jo_some je_int) jo_none))))) js_nil) (js_cons (js_if (jt_cmp J.jc (o_eq J.u64) (je_var (pv 2)) (jv_of je_int) (by rfl)) (js_one (js_ret (je_op J.jc o_add (je_var (pv 3)) (jv_of (je_op J.jc o_mul2 (je_var (pv 3)) (jv_of (je_op J.jc o_add je_int (jv_of (jfB J.jc f__law_take (J.room.mono (by decide)) (by rfl) (pv 0) (ja_cons je_int ja_nil)))))))))) js_nil) (js_cons (js_if (jt_cmp J.jc (o_eq J.u64) (je_var (pv 2)) (jv_of je_int) (by rfl)) (js_one (js_ret (je_op J.jc o_add (je_var (pv 4)) (jv_of (jfB J.jc f__law_pick (J.room.mono (by decide)) (by rfl) (pv 0) (ja_cons je_str ja_nil)))))) js_nil) (js_one (js_ret (je_op J.jc o_add (je_var (pv 4)) (jv_of (jfB J.jc f__law_pick (J.room.mono (by decide)) (by rfl) (pv 0) (ja_cons je_str ja_nil))))))))))))))))
theorem w__law_shuffled {P0 : Program} {w : World} {K : PySem.W.Frag} {mg : Str → Option Value} {base : Heap} {f fI : Addr} (G : Glob mg) (ER : ErrsOk K mg ers errSub fI) (f__law_take : FnI P0 w K mg base 2 "_law_take" ["store", "many"] S._law_take)
    (cdv : Value) (A : Around) (outer : List PySem.Env) (s : Shared) (H : Hp) (E : XK) (C : Pr) (J : JX (cxOf (L2.CX P0 w) P0 w K mg base N__law_shuffled "_law_shuffled" (defScope s__law_shuffled) f cdv A outer s H E) C 2) :
    PSs (cxOf (L2.CX P0 w) P0 w K mg base N__law_shuffled "_law_shuffled" (defScope s__law_shuffled) f cdv A outer s H E) (defBody s__law_shuffled) (lS C r__law_shuffled) := by
  have nd : N__law_shuffled.Nodup := by decide +kernel
  exact (js_cons (js_set (i := 2) nd rfl (by first | exact .inl rfl | exact .inr rfl) (je_cty J.jc (c_list J.calm) (by rfl) G.list (by rfl) (ja_one (g := daNil) (jv_var (pv 1))))) (js_cons (js_set (i := 3) nd rfl (by first | exact .inl rfl | exact .inr rfl) (je_lst ja_nil)) (js_cons (js_for J.po J.calm (ji_rng1 (by rfl) G.range (ja_cons (je_cb J.jc c_len (by rfl) G.len (by rfl) (ja_one (g := daNil) (jv_var (pv 1)))) ja_nil)) (jg_name nd rfl (by first | exact .inl rfl | exact .inr rfl)) (js_one (js_expr (je_mut J.jc PySem.F.slot_list_append PySem.F.type_list_append m_append (pv 3) (ja_cons (je_mut J.jc PySem.F.slot_list_pop PySem.F.type_list_pop m_pop (pv 2) (ja_cons (jfB J.jc f__law_take (J.room.mono (by decide)) (by rfl) (pv 0) (ja_cons (je_cb J.jc c_len (by rfl) G.len (by rfl) (ja_one (g := daNil) (jv_var (pv 2)))) ja_nil)) ja_nil)) ja_nil))))) (js_one (js_retv (pv 3))))))
theorem w__law_case {P0 : Program} {w : World} {K : PySem.W.Frag} {mg : Str → Option Value} {base : Heap} {f fI : Addr} (G : Glob mg) (ER : ErrsOk K mg ers errSub fI) (f__law_shuffled : FnI P0 w K mg base 3 "_law_shuffled" ["store", "things"] S._law_shuffled) (f__law_take : FnI P0 w K mg base 2 "_law_take" ["store", "many"] S._law_take)
    (cdv : Value) (A : Around) (outer : List PySem.Env) (s : Shared) (H : Hp) (E : XK) (C : Pr) (J : JX (cxOf (L2.CX P0 w) P0 w K mg base N__law_case "_law_case" (defScope s__law_case) f cdv A outer s H E) C 3) :
    PSs (cxOf (L2.CX P0 w) P0 w K mg base N__law_case "_law_case" (defScope s__law_case) f cdv A outer s H E) (defBody s__law_case) (lS C r__law_case) := by
  have nd : N__law_case.Nodup := by decide +kernel
  exact (js_cons (js_set (i := 2) nd rfl (by first | exact .inl rfl | exact .inr rfl) (jfB J.jc f__law_take (J.room.mono (by decide)) (by rfl) (pv 0) (ja_cons je_int ja_nil))) (js_cons (js_if (jt_cmp J.jc (o_ltD J.u64) (je_var (pv 2)) (jv_of je_int) (by rfl)) (js_one (js_ret (je_ix J.jc (je_tup (ja_cons (je_tup (ja_cons je_str (ja_cons je_str ja_nil))) (ja_cons (je_tup (ja_cons (je_var (pv 1)) (ja_cons je_str ja_nil))) (ja_cons (je_tup (ja_cons je_str (ja_cons (je_var (pv 1)) ja_nil))) ja_nil)))) (jv_var (pv 2))))) js_nil) (js_cons (js_if (jt_pw (jw_and (jt_cmp J.jc (o_ltD J.u64) (je_var (pv 2)) (jv_of je_int) (by rfl)) (jw_and1 (jt_cmp J.jc o_gt (je_cb J.jc c_len (by rfl) G.len (by rfl) (ja_one (g := daNil) (jv_var (pv 1)))) (jv_of je_int) (by rfl))))) (js_cons (js_set (i := 3) nd rfl (by first | exact .inl rfl | exact .inr rfl) (jfB J.jc f__law_shuffled (J.room.mono (by decide)) (by rfl) (pv 0) (ja_cons (je_var (pv 1)) ja_nil))) (js_one (js_ret (je_tup (ja_cons (je_ixV J.jc (pv 3) je_int) (ja_cons (je_ixV J.jc (pv 3) je_int) ja_nil)))))) js_nil) (js_cons (js_set (i := 4) nd rfl (by first | exact .inl rfl | exact .inr rfl) je_str) (js_cons (js_set (i := 5) nd rfl (by first | exact .inl rfl | exact .inr rfl) je_str) (js_cons (js_for J.po J.calm (ji_val J.jc (je_var (pv 1))) (jg_name nd rfl (by first | exact .inl rfl | exact .inr rfl)) (js_cons (js_set (i := 7) nd rfl (by first | exact .inl rfl | exact .inr rfl) (jfB J.jc f__law_take (J.room.mono (by decide)) (by rfl) (pv 0) (ja_cons je_int ja_nil))) (js_cons (js_if (jt_cmp J.jc (o_eq J.u64) (je_var (pv 7)) (jv_of je_int) (by rfl)) (js_one (js_set (i := 4) nd rfl (by first | exact .inl rfl | exact .inr rfl) (je_op J.jc o_add (je_var (pv 4)) (jv_var (pv 6))))) js_nil) (js_one (js_if (jt_cmp J.jc (o_eq J.u64) (je_var (pv 7)) (jv_of je_int) (by rfl)) (js_one (js_set (i := 5) nd rfl (by first | exact .inl rfl | exact .inr rfl) (je_op J.jc o_add (je_var (pv 5)) (jv_var (pv 6))))) js_nil))))) (js_one (js_ret (je_tup (ja_cons (je_var (pv 4)) (ja_cons (je_var (pv 5)) ja_nil)))))))))))
theorem w__law_union {P0 : Program} {w : World} {K : PySem.W.Frag} {mg : Str → Option Value} {base : Heap} {f fI : Addr} (G : Glob mg) (ER : ErrsOk K mg ers errSub fI)
    (cdv : Value) (A : Around) (outer : List PySem.Env) (s : Shared) (H : Hp) (E : XK) (C : Pr) (J : JX (cxOf (L2.CX P0 w) P0 w K mg base N__law_union "_law_union" (defScope s__law_union) f cdv A outer s H E) C 0) :
    PSs (cxOf (L2.CX P0 w) P0 w K mg base N__law_union "_law_union" (defScope s__law_union) f cdv A outer s H E) (defBody s__law_union) (lS C r__law_union) := by
  have nd : N__law_union.Nodup := by decide +kernel
  exact (js_one (js_ret (je_join J.jc je_str (jv_of (je_lc J.jc J.calm nd (ji_val J.jc je_str) (L2.blkOk_by (own := [("field", 2)]) (by kernel_rfl)) (by decide) (fun _ _ _ _ _ => (jg_name nd rfl (by first | exact .inl rfl | exact .inr rfl) (by first | exact .inl rfl | exact .inr rfl))) (fun _ _ _ _ _ => (jts_one (jt_pw (jw_or (jt_cmp (jc_blk J.jc) (o_in J.u65) (je_var (pv 2)) (jv_var (pv 0)) (by rfl)) (jw_or1 (jt_cmp (jc_blk J.jc) (o_in J.u65) (je_var (pv 2)) (jv_var (pv 1)) (by rfl))))))) (fun _ _ _ _ _ => (je_var (pv 2))))))))
theorem w__law_bad_case {P0 : Program} {w : World} {K : PySem.W.Frag} {mg : Str → Option Value} {base : Heap} {f fI : Addr} (G : Glob mg) (ER : ErrsOk K mg ers errSub fI) (f__law_bad_lot : FnI P0 w K mg base 5 "_law_bad_lot" ["store", "fields"] S._law_bad_lot) (f__law_case : FnI P0 w K mg base 4 "_law_case" ["store", "fields"] S._law_case) (f__law_pick : FnI P0 w K mg base 3 "_law_pick" ["store", "things"] S._law_pick) (f__law_take : FnI P0 w K mg base 2 "_law_take" ["store", "many"] S._law_take) (f__law_union : FnI P0 w K mg base 1 "_law_union" ["one", "two"] S._law_union)
    (cdv : Value) (A : Around) (outer : List PySem.Env) (s : Shared) (H : Hp) (E : XK) (C : Pr) (J : JX (cxOf (L2.CX P0 w) P0 w K mg base N__law_bad_case "_law_bad_case" (defScope s__law_bad_case) f cdv A outer s H E) C 5) :
    PSs (cxOf (L2.CX P0 w) P0 w K mg base N__law_bad_case "_law_bad_case" (defScope s__law_bad_case) f cdv A outer s H E) (defBody s__law_bad_case) (lS C r__law_bad_case) := by
  have nd : N__law_bad_case.Nodup := by decide +kernel
  exact (js_cons (js_set (i := 2) nd rfl (by first | exact .inl rfl | exact .inr rfl) (jfB J.jc f__law_take (J.room.mono (by decide)) (by rfl) (pv 0) (ja_cons je_int ja_nil))) (js_cons (js_asg (jfB J.jc f__law_case (J.room.mono (by decide)) (by rfl) (pv 0) (ja_cons (je_var (pv 1)) ja_nil)) (jg_tup (n := 2) J.jc J.calm (jgs_cons (jg_name nd rfl (by first | exact .inl rfl | exact .inr rfl)) (jgs_cons (jg_name nd rfl (by first | exact .inl rfl | exact .inr rfl)) jgs_nil)) (gs_len gN_ex (gs_len gN_ex gs_len0)))) (js_cons (js_if (jt_cmp J.jc (o_eq J.u64) (je_var (pv 2)) (jv_of je_int) (by rfl)) (js_one (js_ret (je_tup ja_nil))) js_nil) (js_cons (js_if (jt_cmp J.jc (o_eq J.u64) (je_var (pv 2)) (jv_of je_int) (by rfl)) (js_one (js_ret (je_tup (ja_cons (je_var (pv 3)) ja_nil)))) js_nil) (js_cons (js_if (jt_cmp J.jc (o_eq J.u64) (je_var (pv 2)) (jv_of je_int) (by rfl)) (js_one (js_ret (je_tup (ja_cons (je_var (pv 3)) (ja_cons (je_var (pv 4)) (ja_cons je_str ja_nil)))))) js_nil) (js_cons (js_if (jt_cmp J.jc (o_eq J.u64) (je_var (pv 2)) (jv_of je_int) (by rfl)) (js_one (js_ret (je_tup (ja_cons (jfB J.jc f__law_bad_lot (J.room.mono (by decide)) (by rfl) (pv 0) (ja_cons (je_var (pv 1)) ja_nil)) (ja_cons (je_var (pv 4)) ja_nil))))) js_nil) (js_cons (js_if (jt_cmp J.jc (o_eq J.u64) (je_var (pv 2)) (jv_of je_int) (by rfl)) (js_one (js_ret (je_tup (ja_cons (je_var (pv 3)) (ja_cons (jfB J.jc f__law_bad_lot (J.room.mono (by decide)) (by rfl) (pv 0) (ja_cons (je_var (pv 1)) ja_nil)) ja_nil))))) js_nil) (js_cons (js_if (jt_cmp J.jc (o_eq J.u64) (je_var (pv 2)) (jv_of je_int) (by rfl)) (js_one (js_ret (je_tup (ja_cons (je_var (pv 3)) (ja_cons (je_var (pv 4)) (ja_cons (je_var (pv 3)) (ja_cons (je_var (pv 4)) ja_nil))))))) js_nil) (js_cons (js_set (i := 5) nd rfl (by first | exact .inl rfl | exact .inr rfl) (jfB J.jc f__law_pick (J.room.mono (by decide)) (by rfl) (pv 0) (ja_cons (je_var (pv 1)) ja_nil))) (js_one (js_ret (je_tup (ja_cons (jf J.jc f__law_union (J.room.mono (by decide)) (by rfl) (ja_cons (je_var (pv 3)) (ja_cons (je_var (pv 5)) ja_nil))) (ja_cons (jf J.jc f__law_union (J.room.mono (by decide)) (by rfl) (ja_cons (je_var (pv 4)) (ja_cons (je_var (pv 5)) ja_nil))) ja_nil))))))))))))))
theorem w__law_any_case {P0 : Program} {w : World} {K : PySem.W.Frag} {mg : Str → Option Value} {base : Heap} {f fI : Addr} (G : Glob mg) (ER : ErrsOk K mg ers errSub fI) (f__law_bad_case : FnI P0 w K mg base 6 "_law_bad_case" ["store", "fields"] S._law_bad_case) (f__law_case : FnI P0 w K mg base 4 "_law_case" ["store", "fields"] S._law_case) (f__law_take : FnI P0 w K mg base 2 "_law_take" ["store", "many"] S._law_take)
    (cdv : Value) (A : Around) (outer : List PySem.Env) (s : Shared) (H : Hp) (E : XK) (C : Pr) (J : JX (cxOf (L2.CX P0 w) P0 w K mg base N__law_any_case "_law_any_case" (defScope s__law_any_case) f cdv A outer s H E) C 6) :
    PSs (cxOf (L2.CX P0 w) P0 w K mg base N__law_any_case "_law_any_case" (defScope s__law_any_case) f cdv A outer s H E) (defBody s__law_any_case) (lS C r__law_any_case) := by
  have nd : N__law_any_case.Nodup := by decide +kernel
  exact (js_cons (js_set (i := 2) nd rfl (by first | exact .inl rfl | exact .inr rfl) (jfB J.jc f__law_take (J.room.mono (by decide)) (by rfl) (pv 0) (ja_cons je_int ja_nil))) (js_cons (js_if (jt_cmp J.jc (o_ltD J.u64) (je_var (pv 2)) (jv_of je_int) (by rfl)) (js_one (js_ret (jfB J.jc f__law_bad_case (J.room.mono (by decide)) (by rfl) (pv 0) (ja_cons (je_var (pv 1)) ja_nil)))) js_nil) (js_cons (js_if (jt_cmp J.jc (o_eq J.u64) (je_var (pv 2)) (jv_of je_int) (by rfl)) (js_one (js_ret (jfB J.jc f__law_case (J.room.mono (by decide)) (by rfl) (pv 0) (ja_cons je_str ja_nil)))) js_nil) (js_one (js_ret (jfB J.jc f__law_case (J.room.mono (by decide)) (by rfl) (pv 0) (ja_cons (je_var (pv 1)) ja_nil)))))))
theorem w__law_bad_fields {P0 : Program} {w : World} {K : PySem.W.Frag} {mg : Str → Option Value} {base : Heap} {f fI : Addr} (G : Glob mg) (ER : ErrsOk K mg ers errSub fI) (f__law_bad_lot : FnI P0 w K mg base 5 "_law_bad_lot" ["store", "fields"] S._law_bad_lot) (f__law_take : FnI P0 w K mg base 2 "_law_take" ["store", "many"] S._law_take)
    (cdv : Value) (A : Around) (outer : List PySem.Env) (s : Shared) (H : Hp) (E : XK) (C : Pr) (J : JX (cxOf (L2.CX P0 w) P0 w K mg base N__law_bad_fields "_law_bad_fields" (defScope s__law_bad_fields) f cdv A outer s H E) C 5) :
    PSs (cxOf (L2.CX P0 w) P0 w K mg base N__law_bad_fields "_law_bad_fields" (defScope s__law_bad_fields) f cdv A outer s H E) (defBody s__law_bad_fields) (lS C r__law_bad_fields) := by
  have nd : N__law_bad_fields.Nodup := by decide +kernel
  exact (js_cons (js_if (jt_cmp J.jc (o_eq J.u64) (jfB J.jc f__law_take (J.room.mono (by decide)) (by rfl) (pv 0) (ja_cons je_int ja_nil)) (jv_of je_int) (by rfl)) (js_one (js_ret je_str)) js_nil) (js_one (js_ret (jfB J.jc f__law_bad_lot (J.room.mono (by decide)) (by rfl) (pv 0) (ja_cons je_str ja_nil)))))
theorem w__law_fields {P0 : Program} {w : World} {K : PySem.W.Frag} {mg : Str → Option Value} {base : Heap} {f fI : Addr} (G : Glob mg) (ER : ErrsOk K mg ers errSub fI) (f__law_take : FnI P0 w K mg base 2 "_law_take" ["store", "many"] S._law_take)
    (cdv : Value) (A : Around) (outer : List PySem.Env) (s : Shared) (H : Hp) (E : XK) (C : Pr) (J : JX (cxOf (L2.CX P0 w) P0 w K mg base N__law_fields "_law_fields" (defScope s__law_fields) f cdv A outer s H E) C 2) :
    PSs (cxOf (L2.CX P0 w) P0 w K mg base N__law_fields "_law_fields" (defScope s__law_fields) f cdv A outer s H E) (defBody s__law_fields) (lS C r__law_fields) := by
  have nd : N__law_fields.Nodup := by decide +kernel
  exact (js_cons (js_set (i := 3) nd rfl (by first | exact .inl rfl | exact .inr rfl) (jfB J.jc f__law_take (J.room.mono (by decide)) (by rfl) (pv 0) (ja_cons je_int ja_nil))) (js_cons (js_set (i := 4) nd rfl (by first | exact .inl rfl | exact .inr rfl) (je_var (pv 1))) (js_cons (js_if (jt_cmp J.jc (o_eq J.u64) (je_var (pv 3)) (jv_of je_int) (by rfl)) (js_one (js_set (i := 4) nd rfl (by first | exact .inl rfl | exact .inr rfl) (je_var (pv 2)))) js_nil) (js_cons (js_if (jt_cmp J.jc o_gt (je_var (pv 3)) (jv_of je_int) (by rfl)) (js_one (js_set (i := 4) nd rfl (by first | exact .inl rfl | exact .inr rfl) (je_op J.jc o_add (je_var (pv 1)) (jv_of (jfB J.jc f__law_take (J.room.mono (by decide)) (by rfl) (pv 0) (ja_cons (je_op J.jc o_add (je_op J.jc o_sub (je_var (pv 2)) (jv_var (pv 1))) (jv_of je_int)) ja_nil)))))) js_nil) (js_cons (js_set (i := 5) nd rfl (by first | exact .inl rfl | exact .inr rfl) (je_cty J.jc (c_list J.calm) (by rfl) G.list (by rfl) (ja_one (g := daNil) (jv_of je_str)))) (js_cons (js_if (jt_cmp J.jc (o_eq J.u64) (jfB J.jc f__law_take (J.room.mono (by decide)) (by rfl) (pv 0) (ja_cons je_int ja_nil)) (jv_of je_int) (by rfl)) (js_one (js_ret (je_join J.jc je_str (jv_of (je_sl J.jc (je_var (pv 5)) jo_none (jo_some (je_var (pv 4)))))))) js_nil) (js_cons (js_for J.po J.calm (ji_rng1 (by rfl) G.range (ja_cons (je_op J.jc o_sub je_int (jv_var (pv 4))) ja_nil)) (jg_name nd rfl (by first | exact .inl rfl | exact .inr rfl)) (js_one (js_expr (je_mut J.jc PySem.F.slot_list_pop PySem.F.type_list_pop m_pop (pv 5) (ja_cons (jfB J.jc f__law_take (J.room.mono (by decide)) (by rfl) (pv 0) (ja_cons (je_cb J.jc c_len (by rfl) G.len (by rfl) (ja_one (g := daNil) (jv_var (pv 5)))) ja_nil)) ja_nil))))) (js_one (js_ret (je_join J.jc je_str (jv_var (pv 5))))))))))))
theorem w__law_of_signs {P0 : Program} {w : World} {K : PySem.W.Frag} {mg : Str → Option Value} {base : Heap} {f fI : Addr} (G : Glob mg) (ER : ErrsOk K mg ers errSub fI)
    (cdv : Value) (A : Around) (outer : List PySem.Env) (s : Shared) (H : Hp) (E : XK) (C : Pr) (J : JX (cxOf (L2.CX P0 w) P0 w K mg base N__law_of_signs "_law_of_signs" (defScope s__law_of_signs) f cdv A outer s H E) C 0) :
    PSs (cxOf (L2.CX P0 w) P0 w K mg base N__law_of_signs "_law_of_signs" (defScope s__law_of_signs) f cdv A outer s H E) (defBody s__law_of_signs) (lS C r__law_of_signs) := by
  have nd : N__law_of_signs.Nodup := by decide +kernel
  exact (js_cons (js_set (i := 2) nd rfl (by first | exact .inl rfl | exact .inr rfl) (je_join J.jc je_str (jv_of (je_lc J.jc J.calm nd (ji_enumA J.jc (by rfl) G.enumerate (ja_cons (je_var (pv 0)) ja_nil)) (L2.blkOk_by (own := [("at", 3), ("field", 4)]) (by kernel_rfl)) (by decide) (fun _ _ _ _ _ => (jg_tup (n := 2) (jc_blk J.jc) J.calm (jgs_cons (jg_name nd rfl (by first | exact .inl rfl | exact .inr rfl) (by first | exact .inl rfl | exact .inr rfl)) (jgs_cons (jg_name nd rfl (by first | exact .inl rfl | exact .inr rfl) (by first | exact .inl rfl | exact .inr rfl)) jgs_nil)) (gs_len gN_ex (gs_len gN_ex gs_len0)))) (fun _ _ _ _ _ => (jts_one (jt_cmp (jc_blk J.jc) (o_eq J.u64) (je_ixV (jc_blk J.jc) (pv 1) (je_var (pv 3))) (jv_of je_int) (by rfl)))) (fun _ _ _ _ _ => (je_var (pv 4))))))) (js_one (js_ret (je_tup (ja_cons (je_var (pv 2)) (ja_cons (je_join J.jc je_str (jv_of (je_lc J.jc J.calm nd (ji_enumA J.jc (by rfl) G.enumerate (ja_cons (je_var (pv 0)) ja_nil)) (L2.blkOk_by (own := [("at", 3), ("field", 4)]) (by kernel_rfl)) (by decide) (fun _ _ _ _ _ => (jg_tup (n := 2) (jc_blk J.jc) J.calm (jgs_cons (jg_name nd rfl (by first | exact .inl rfl | exact .inr rfl) (by first | exact .inl rfl | exact .inr rfl)) (jgs_cons (jg_name nd rfl (by first | exact .inl rfl | exact .inr rfl) (by first | exact .inl rfl | exact .inr rfl)) jgs_nil)) (gs_len gN_ex (gs_len gN_ex gs_len0)))) (fun _ _ _ _ _ => (jts_one (jt_cmp (jc_blk J.jc) (o_eq J.u64) (je_ixV (jc_blk J.jc) (pv 1) (je_var (pv 3))) (jv_of je_int) (by rfl)))) (fun _ _ _ _ _ => (je_var (pv 4)))))) ja_nil))))))
theorem w__law_thirds {P0 : Program} {w : World} {K : PySem.W.Frag} {mg : Str → Option Value} {base : Heap} {f fI : Addr} (G : Glob mg) (ER : ErrsOk K mg ers errSub fI) (f__law_case : FnI P0 w K mg base 4 "_law_case" ["store", "fields"] S._law_case) (f__law_of_signs : FnI P0 w K mg base 1 "_law_of_signs" ["fields", "signs"] S._law_of_signs) (f__law_pick : FnI P0 w K mg base 3 "_law_pick" ["store", "things"] S._law_pick) (f__law_take : FnI P0 w K mg base 2 "_law_take" ["store", "many"] S._law_take)
    (cdv : Value) (A : Around) (outer : List PySem.Env) (s : Shared) (H : Hp) (E : XK) (C : Pr) (J : JX (cxOf (L2.CX P0 w) P0 w K mg base N__law_thirds "_law_thirds" (defScope s__law_thirds) f cdv A outer s H E) C 4) :
    PSs (cxOf (L2.CX P0 w) P0 w K mg base N__law_thirds "_law_thirds" (defScope s__law_thirds) f cdv A outer s H E) (defBody s__law_thirds) (lS C r__law_thirds) := by
  have nd : N__law_thirds.Nodup := by decide +kernel
  exact (js_cons (js_setLc (i := 3) J.jc J.calm nd rfl rfl (L2.sw_true rfl rfl rfl (by decide +kernel)) (ji_rng1 (by rfl) G.range (ja_cons (je_cb J.jc c_len (by rfl) G.len (by rfl) (ja_one (g := daNil) (jv_var (pv 1)))) ja_nil)) (L2.blkOk_by (own := [("at", 4)]) (by kernel_rfl)) (by decide) (fun _ _ _ _ _ => (jg_name nd rfl (by first | exact .inl rfl | exact .inr rfl) (by first | exact .inl rfl | exact .inr rfl))) (fun _ _ _ _ _ => jts_nil) (fun _ _ _ _ _ => (jfB (jc_blk J.jc) f__law_pick (J.room.mono (by decide)) (by rfl) (pv 0) (ja_cons (je_ixV (jc_blk J.jc) (pv 2) (je_var (pv 4))) ja_nil)))) (js_cons (js_set (i := 5) nd rfl (by first | exact .inl rfl | exact .inr rfl) (je_lst (ja_cons (jfS J.jc f__law_of_signs (J.room.mono (by decide)) (by rfl) (ja_names (pv 1) (ja_names (pv 3) ja_names_nil))) ja_nil))) (js_cons (js_set (i := 4) nd rfl (by first | exact .inl rfl | exact .inr rfl) (jfB J.jc f__law_take (J.room.mono (by decide)) (by rfl) (pv 0) (ja_cons (je_cb J.jc c_len (by rfl) G.len (by rfl) (ja_one (g := daNil) (jv_var (pv 1)))) ja_nil))) (js_cons (js_lput J.jc (pv 3) (je_var (pv 4)) (je_op J.jc o_mod (je_cty J.jc c_int (by rfl) G.int (by rfl) (ja_one (g := daNil) (jv_of (je_op J.jc o_add (je_op J.jc o_add (je_ixV J.jc (pv 3) (je_var (pv 4))) (jv_of je_int)) (jv_of (jfB J.jc f__law_take (J.room.mono (by decide)) (by rfl) (pv 0) (ja_cons je_int ja_nil))))))) (jv_of je_int))) (js_one (js_ret (je_op J.jc o_add (je_var (pv 5)) (jv_of (je_lst (ja_cons (jfS J.jc f__law_of_signs (J.room.mono (by decide)) (by rfl) (ja_names (pv 1) (ja_names (pv 3) ja_names_nil))) (ja_cons (jfB J.jc f__law_case (J.room.mono (by decide)) (by rfl) (pv 0) (ja_cons (je_var (pv 1)) ja_nil)) ja_nil)))))))))))
theorem w__law_world_drawn {P0 : Program} {w : World} {K : PySem.W.Frag} {mg : Str → Option Value} {base : Heap} {f fI : Addr} (G : Glob mg) (ER : ErrsOk K mg ers errSub fI) (f__law_any_case : FnI P0 w K mg base 7 "_law_any_case" ["store", "fields"] S._law_any_case) (f__law_bad_fields : FnI P0 w K mg base 6 "_law_bad_fields" ["store"] S._law_bad_fields) (f__law_case : FnI P0 w K mg base 4 "_law_case" ["store", "fields"] S._law_case) (f__law_fields : FnI P0 w K mg base 3 "_law_fields" ["store", "low", "high"] S._law_fields) (f__law_signs : FnI P0 w K mg base 3 "_law_signs" ["fields", "one", "two"] S._law_signs) (f__law_take : FnI P0 w K mg base 2 "_law_take" ["store", "many"] S._law_take) (f__law_thirds : FnI P0 w K mg base 5 "_law_thirds" ["store", "fields", "signs"] S._law_thirds)
    (cdv : Value) (A : Around) (outer : List PySem.Env) (s : Shared) (H : Hp) (E : XK) (C : Pr) (J : JX (cxOf (L2.CX P0 w) P0 w K mg base N__law_world_drawn "_law_world_drawn" (defScope s__law_world_drawn) f cdv A outer s H E) C 7) :
    PSs (cxOf (L2.CX P0 w) P0 w K mg base N__law_world_drawn "_law_world_drawn" (defScope s__law_world_drawn) f cdv A outer s H E) (defBody s__law_world_drawn) (lS C r__law_world_drawn) := by
  have nd : N__law_world_drawn.Nodup := by decide +kernel
  exact (js_cons (js_set (i := 1) nd rfl (by first | exact .inl rfl | exact .inr rfl) (jfB J.jc f__law_fields (J.room.mono (by decide)) (by rfl) (pv 0) (ja_cons je_int (ja_cons je_int ja_nil)))) (js_cons (js_set (i := 2) nd rfl (by first | exact .inl rfl | exact .inr rfl) (jfB J.jc f__law_case (J.room.mono (by decide)) (by rfl) (pv 0) (ja_cons (je_var (pv 1)) ja_nil))) (js_cons (js_set (i := 3) nd rfl (by first | exact .inl rfl | exact .inr rfl) (jfB J.jc f__law_case (J.room.mono (by decide)) (by rfl) (pv 0) (ja_cons (je_var (pv 1)) ja_nil))) (js_cons (js_set (i := 4) nd rfl (by first | exact .inl rfl | exact .inr rfl) (jfB J.jc f__law_take (J.room.mono (by decide)) (by rfl) (pv 0) (ja_cons je_int ja_nil))) (js_cons (js_if (jt_cmp J.jc (o_ltD J.u64) (je_var (pv 4)) (jv_of je_int) (by rfl)) (js_one (js_set (i := 3) nd rfl (by first | exact .inl rfl | exact .inr rfl) (je_tup (ja_cons (je_ixV J.jc (pv 2) je_int) (ja_cons (je_ixV J.jc (pv 2) je_int) ja_nil))))) js_nil) (js_cons (js_if (jt_cmp J.jc (o_eq J.u64) (je_var (pv 4)) (jv_of je_int) (by rfl)) (js_cons (js_set (i := 2) nd rfl (by first | exact .inl rfl | exact .inr rfl) (je_tup (ja_cons (je_var (pv 1)) (ja_cons je_str ja_nil)))) (js_one (js_set (i := 3) nd rfl (by first | exact .inl rfl | exact .inr rfl) (je_tup (ja_cons je_str (ja_cons (je_var (pv 1)) ja_nil)))))) js_nil) (js_cons (js_set (i := 5) nd rfl (by first | exact .inl rfl | exact .inr rfl) (jfB J.jc f__law_thirds (J.room.mono (by decide)) (by rfl) (pv 0) (ja_cons (je_var (pv 1)) (ja_cons (jf J.jc f__law_signs (J.room.mono (by decide)) (by rfl) (ja_cons (je_var (pv 1)) (ja_cons (je_var (pv 2)) (ja_cons (je_var (pv 3)) ja_nil)))) ja_nil)))) (js_cons (js_set (i := 6) nd rfl (by first | exact .inl rfl | exact .inr rfl) (je_lst ja_nil)) (js_cons (js_for J.po J.calm (ji_rng1 (by rfl) G.range (ja_cons je_int ja_nil)) (jg_name nd rfl (by first | exact .inl rfl | exact .inr rfl)) (js_cons (js_setLc (i := 8) J.jc J.calm nd rfl rfl (L2.sw_true rfl rfl rfl (by decide +kernel)) (ji_rng1 (by rfl) G.range (ja_cons je_int ja_nil)) (L2.blkOk_by (own := [("place", 9)]) (by kernel_rfl)) (by decide) (fun _ _ _ _ _ => (jg_name nd rfl (by first | exact .inl rfl | exact .inr rfl) (by first | exact .inl rfl | exact .inr rfl))) (fun _ _ _ _ _ => jts_nil) (fun _ _ _ _ _ => (jfB (jc_blk J.jc) f__law_any_case (J.room.mono (by decide)) (by rfl) (pv 0) (ja_cons (je_var (pv 1)) ja_nil)))) (js_cons (js_set (i := 10) nd rfl (by first | exact .inl rfl | exact .inr rfl) (je_var (pv 1))) (js_cons (js_if (jt_pw (jw_or (jt_cmp J.jc (o_eq J.u64) (je_var (pv 7)) (jv_of je_int) (by rfl)) (jw_or1 (jt_cmp J.jc (o_eq J.u64) (jfB J.jc f__law_take (J.room.mono (by decide)) (by rfl) (pv 0) (ja_cons je_int ja_nil)) (jv_of je_int) (by rfl))))) (js_one (js_set (i := 10) nd rfl (by first | exact .inl rfl | exact .inr rfl) (jfB J.jc f__law_bad_fields (J.room.mono (by decide)) (by rfl) (pv 0) ja_nil))) js_nil) (js_one (js_expr (je_mut J.jc PySem.F.slot_list_append PySem.F.type_list_append m_append (pv 6) (ja_cons (je_tup (ja_cons (je_var (pv 10)) (ja_cons (je_ixV J.jc (pv 8) je_int) (ja_cons (je_ixV J.jc (pv 8) je_int) (ja_cons (je_ixV J.jc (pv 8) je_int) ja_nil))))) ja_nil)))))))) (js_one (js_ret (je_tup (ja_cons (je_var (pv 1)) (ja_cons (je_var (pv 2)) (ja_cons (je_var (pv 3)) (ja_cons (je_var (pv 5)) (ja_cons (je_var (pv 6)) ja_nil)))))))))))))))))
theorem w_law {P0 : Program} {w : World} {K : PySem.W.Frag} {mg : Str → Option Value} {base : Heap} {f fI : Addr} (G : Glob mg) (ER : ErrsOk K mg ers errSub fI) (f__law_all_met : FnI P0 w K mg base 3 "_law_all_met" ["fields", "signs", "answer"] S._law_all_met) (f__law_cases : FnI P0 w K mg base 4 "_law_cases" ["fields"] S._law_cases) (f__law_round : FnI P0 w K mg base 8 "_law_round" ["which", "fields", "one", "two", "third"] S._law_round) (f__law_signs : FnI P0 w K mg base 3 "_law_signs" ["fields", "one", "two"] S._law_signs) (f__law_store : FnI P0 w K mg base 2 "_law_store" ["script"] S._law_store) (f__law_world_drawn : FnI P0 w K mg base 8 "_law_world_drawn" ["store"] S._law_world_drawn) (f_meetings : FnI P0 w K mg base 6 "meetings" ["fields", "one", "two"] S.meetings)
    (cdv : Value) (A : Around) (outer : List PySem.Env) (s : Shared) (H : Hp) (E : XK) (C : Pr) (J : JX (cxOf (L2.CX P0 w) P0 w K mg base N_law "law" (defScope s_law) f cdv A outer s H E) C 8) :
    PSs (cxOf (L2.CX P0 w) P0 w K mg base N_law "law" (defScope s_law) f cdv A outer s H E) (defBody s_law) (lS C r_law) := by
  have nd : N_law.Nodup := by decide +kernel
  exact (js_cons (js_set (i := 1) nd rfl (by first | exact .inl rfl | exact .inr rfl) (jf J.jc f__law_store (J.room.mono (by decide)) (by rfl) (ja_cons (je_var (pv 0)) ja_nil))) (js_cons (js_asg (jfB J.jc f__law_world_drawn (J.room.mono (by decide)) (by rfl) (pv 1) ja_nil) (jg_tup (n := 5) J.jc J.calm (jgs_cons (jg_name nd rfl (by first | exact .inl rfl | exact .inr rfl)) (jgs_cons (jg_name nd rfl (by first | exact .inl rfl | exact .inr rfl)) (jgs_cons (jg_name nd rfl (by first | exact .inl rfl | exact .inr rfl)) (jgs_cons (jg_name nd rfl (by first | exact .inl rfl | exact .inr rfl)) (jgs_cons (jg_name nd rfl (by first | exact .inl rfl | exact .inr rfl)) jgs_nil))))) (gs_len gN_ex (gs_len gN_ex (gs_len gN_ex (gs_len gN_ex (gs_len gN_ex gs_len0))))))) (js_cons (js_set (i := 7) nd rfl (by first | exact .inl rfl | exact .inr rfl) (jf J.jc f__law_signs (J.room.mono (by decide)) (by rfl) (ja_cons (je_var (pv 2)) (ja_cons (je_var (pv 3)) (ja_cons (je_var (pv 4)) ja_nil))))) (js_cons (js_if (jt_cmp J.jc (o_ltD J.u64) (je_cb J.jc c_len (by rfl) G.len (by rfl) (ja_one (g := daNil) (jv_var (pv 2)))) (jv_of je_int) (by rfl)) (js_one (js_set (i := 5) nd rfl (by first | exact .inl rfl | exact .inr rfl) (je_op J.jc o_add (je_var (pv 5)) (jv_of (jf J.jc f__law_cases (J.room.mono (by decide)) (by rfl) (ja_cons (je_var (pv 2)) ja_nil)))))) js_nil) (js_cons (js_for J.po J.calm (ji_val J.jc (je_var (pv 5))) (jg_name nd rfl (by first | exact .inl rfl | exact .inr rfl)) (js_one (js_if (jt_not (jt_val (jf J.jc f__law_round (J.room.mono (by decide)) (by rfl) (ja_cons je_int (ja_cons (je_var (pv 2)) (ja_cons (je_var (pv 3)) (ja_cons (je_var (pv 4)) (ja_cons (je_var (pv 8)) ja_nil)))))))) (js_one (js_ret je_bl)) js_nil))) (js_cons (js_set (i := 9) nd rfl (by first | exact .inl rfl | exact .inr rfl) (jf J.jc f_meetings (J.room.mono (by decide)) (by rfl) (ja_cons (je_var (pv 2)) (ja_cons (je_var (pv 3)) (ja_cons (je_var (pv 4)) ja_nil))))) (js_cons (js_if (jt_not (jt_val (jfS J.jc f__law_all_met (J.room.mono (by decide)) (by rfl) (ja_names (pv 2) (ja_names (pv 7) (ja_names (pv 9) ja_names_nil)))))) (js_one (js_ret je_bl)) js_nil) (js_cons (js_expr (je_mut J.jc PySem.F.slot_list_append PySem.F.type_list_append m_append (pv 9) (ja_cons (je_tup (ja_cons je_str (ja_cons je_str ja_nil))) ja_nil))) (js_cons (js_expr (je_mut J.jc PySem.F.slot_list_pop PySem.F.type_list_pop m_pop (pv 9) (ja_cons je_int ja_nil))) (js_cons (js_for J.po J.calm (ji_rng1 (by rfl) G.range (ja_cons je_int ja_nil)) (jg_name nd rfl (by first | exact .inl rfl | exact .inr rfl)) (js_one (js_for J.po J.calm (ji_val J.jc (je_var (pv 6))) (jg_tup (n := 4) J.jc J.calm (jgs_cons (jg_name nd rfl (by first | exact .inl rfl | exact .inr rfl)) (jgs_cons (jg_name nd rfl (by first | exact .inl rfl | exact .inr rfl)) (jgs_cons (jg_name nd rfl (by first | exact .inl rfl | exact .inr rfl)) (jgs_cons (jg_name nd rfl (by first | exact .inl rfl | exact .inr rfl)) jgs_nil)))) (gs_len gN_ex (gs_len gN_ex (gs_len gN_ex (gs_len gN_ex gs_len0))))) (js_cons (js_if (jt_pw (jw_or (jt_not (jt_val (jf J.jc f__law_round (J.room.mono (by decide)) (by rfl) (ja_cons (je_var (pv 10)) (ja_cons (je_var (pv 11)) (ja_cons (je_var (pv 12)) (ja_cons (je_var (pv 13)) (ja_cons (je_var (pv 14)) ja_nil)))))))) (jw_or1 (jt_not (jt_val (jf J.jc f__law_round (J.room.mono (by decide)) (by rfl) (ja_cons (je_var (pv 10)) (ja_cons (je_var (pv 2)) (ja_cons (je_var (pv 12)) (ja_cons (je_var (pv 13)) (ja_cons (je_var (pv 14)) ja_nil))))))))))) (js_one (js_ret je_bl)) js_nil) (js_one (js_if (jt_pw (jw_or (jt_not (jt_val (jf J.jc f__law_round (J.room.mono (by decide)) (by rfl) (ja_cons (je_var (pv 10)) (ja_cons (je_var (pv 2)) (ja_cons (je_var (pv 3)) (ja_cons (je_var (pv 12)) (ja_cons (je_ixV J.jc (pv 5) je_int) ja_nil)))))))) (jw_or1 (jt_not (jt_val (jf J.jc f__law_round (J.room.mono (by decide)) (by rfl) (ja_cons (je_var (pv 10)) (ja_cons (je_var (pv 2)) (ja_cons (je_var (pv 3)) (ja_cons (je_var (pv 4)) (ja_cons (je_var (pv 12)) ja_nil))))))))))) (js_one (js_ret je_bl)) js_nil)))))) (js_one (js_ret (je_and (jf J.jc f__law_round (J.room.mono (by decide)) (by rfl) (ja_cons je_int (ja_cons (je_var (pv 2)) (ja_cons (je_var (pv 3)) (ja_cons (je_var (pv 4)) (ja_cons (je_ixV J.jc (pv 5) je_int) ja_nil)))))) (je_one (jf J.jc f__law_all_met (J.room.mono (by decide)) (by rfl) (ja_cons (je_var (pv 2)) (ja_cons (je_var (pv 7)) (ja_cons (jf J.jc f_meetings (J.room.mono (by decide)) (by rfl) (ja_cons (je_var (pv 2)) (ja_cons (je_var (pv 4)) (ja_cons (je_var (pv 3)) ja_nil)))) ja_nil))))))))))))))))))
end K01

set_option Elab.async false
set_option linter.all false
set_option maxRecDepth 100000
set_option maxHeartbeats 0
namespace K01
open PySem PySem.Spec L2 Ow
set_option autoImplicit false
theorem i__law_case_key {P0 : Program} {w : World} {K : PySem.W.Frag} {mg : Str → Option Value} {base : Heap} {h : Heap} {es : List DictEntry} {fI : Addr} (Y : Hw.Sy 9 nms sns K es) (X : K.In h) (G : h.Ns mainGlobals mg) (GL : Glob mg) (ER : ErrsOk K mg ers errSub fI) : FnI P0 w K mg base 1 "_law_case_key" ["case"] S._law_case_key := by
  obtain ⟨fd, hm, Fd⟩ := Y.fn X G 64 (x := "_law_case_key") (nm := "_law_case_key") (q := "_law_case_key") (ps := defArgs s__law_case_key) (body := defBody s__law_case_key) (sc := defScope s__law_case_key) rfl rfl
  exact fnI_mk (nb := 0) Fd hm (Fd.bindsN fun _ _ _ _ _ _ us hl => match us, hl with | [_], _ => rfl) ⟨rfl, rfl, rfl, by decide +kernel, rfl, by decide +kernel, by decide +kernel⟩ (fun cdv A outer s H E C J => w__law_case_key GL ER cdv A outer s H E C J) p__law_case_key
theorem i__law_sign_in {P0 : Program} {w : World} {K : PySem.W.Frag} {mg : Str → Option Value} {base : Heap} {h : Heap} {es : List DictEntry} {fI : Addr} (Y : Hw.Sy 9 nms sns K es) (X : K.In h) (G : h.Ns mainGlobals mg) (GL : Glob mg) (ER : ErrsOk K mg ers errSub fI) : FnI P0 w K mg base 1 "_law_sign_in" ["case", "field"] S._law_sign_in := by
  obtain ⟨fd, hm, Fd⟩ := Y.fn X G 74 (x := "_law_sign_in") (nm := "_law_sign_in") (q := "_law_sign_in") (ps := defArgs s__law_sign_in) (body := defBody s__law_sign_in) (sc := defScope s__law_sign_in) rfl rfl
  exact fnI_mk (nb := 0) Fd hm (Fd.bindsN fun _ _ _ _ _ _ us hl => match us, hl with | [_, _], _ => rfl) ⟨rfl, rfl, rfl, by decide +kernel, rfl, by decide +kernel, by decide +kernel⟩ (fun cdv A outer s H E C J => w__law_sign_in GL ER cdv A outer s H E C J) p__law_sign_in
theorem i__law_fits {P0 : Program} {w : World} {K : PySem.W.Frag} {mg : Str → Option Value} {base : Heap} {h : Heap} {es : List DictEntry} {fI : Addr} (Y : Hw.Sy 9 nms sns K es) (X : K.In h) (G : h.Ns mainGlobals mg) (GL : Glob mg) (ER : ErrsOk K mg ers errSub fI) (f__law_sign_in : FnI P0 w K mg base 1 "_law_sign_in" ["case", "field"] S._law_sign_in) : FnI P0 w K mg base 2 "_law_fits" ["fields", "signs", "case"] S._law_fits := by
  obtain ⟨fd, hm, Fd⟩ := Y.fn X G 77 (x := "_law_fits") (nm := "_law_fits") (q := "_law_fits") (ps := defArgs s__law_fits) (body := defBody s__law_fits) (sc := defScope s__law_fits) rfl rfl
  exact fnI_mk (nb := 0) Fd hm (Fd.bindsN fun _ _ _ _ _ _ us hl => match us, hl with | [_, _, _], _ => rfl) ⟨rfl, rfl, rfl, by decide +kernel, rfl, by decide +kernel, by decide +kernel⟩ (fun cdv A outer s H E C J => w__law_fits GL ER f__law_sign_in cdv A outer s H E C J) p__law_fits
theorem i__law_common {P0 : Program} {w : World} {K : PySem.W.Frag} {mg : Str → Option Value} {base : Heap} {h : Heap} {es : List DictEntry} {fI : Addr} (Y : Hw.Sy 9 nms sns K es) (X : K.In h) (G : h.Ns mainGlobals mg) (GL : Glob mg) (ER : ErrsOk K mg ers errSub fI) : FnI P0 w K mg base 1 "_law_common" ["one", "two"] S._law_common := by
  obtain ⟨fd, hm, Fd⟩ := Y.fn X G 61 (x := "_law_common") (nm := "_law_common") (q := "_law_common") (ps := defArgs s__law_common) (body := defBody s__law_common) (sc := defScope s__law_common) rfl rfl
  exact fnI_mk (nb := 0) Fd hm (Fd.bindsN fun _ _ _ _ _ _ us hl => match us, hl with | [_, _], _ => rfl) ⟨rfl, rfl, rfl, by decide +kernel, rfl, by decide +kernel, by decide +kernel⟩ (fun cdv A outer s H E C J => w__law_common GL ER cdv A outer s H E C J) p__law_common
theorem i__law_is_lot {P0 : Program} {w : World} {K : PySem.W.Frag} {mg : Str → Option Value} {base : Heap} {h : Heap} {es : List DictEntry} {fI : Addr} (Y : Hw.Sy 9 nms sns K es) (X : K.In h) (G : h.Ns mainGlobals mg) (GL : Glob mg) (ER : ErrsOk K mg ers errSub fI) : FnI P0 w K mg base 1 "_law_is_lot" ["fields", "thing"] S._law_is_lot := by
  obtain ⟨fd, hm, Fd⟩ := Y.fn X G 70 (x := "_law_is_lot") (nm := "_law_is_lot") (q := "_law_is_lot") (ps := defArgs s__law_is_lot) (body := defBody s__law_is_lot) (sc := defScope s__law_is_lot) rfl rfl
  exact fnI_mk (nb := 0) Fd hm (Fd.bindsN fun _ _ _ _ _ _ us hl => match us, hl with | [_, _], _ => rfl) ⟨rfl, rfl, rfl, by decide +kernel, rfl, by decide +kernel, by decide +kernel⟩ (fun cdv A outer s H E C J => w__law_is_lot GL ER cdv A outer s H E C J) p__law_is_lot
theorem i__law_is_case {P0 : Program} {w : World} {K : PySem.W.Frag} {mg : Str → Option Value} {base : Heap} {h : Heap} {es : List DictEntry} {fI : Addr} (Y : Hw.Sy 9 nms sns K es) (X : K.In h) (G : h.Ns mainGlobals mg) (GL : Glob mg) (ER : ErrsOk K mg ers errSub fI) (f__law_common : FnI P0 w K mg base 1 "_law_common" ["one", "two"] S._law_common) (f__law_is_lot : FnI P0 w K mg base 1 "_law_is_lot" ["fields", "thing"] S._law_is_lot) : FnI P0 w K mg base 2 "_law_is_case" ["fields", "thing"] S._law_is_case := by
  obtain ⟨fd, hm, Fd⟩ := Y.fn X G 71 (x := "_law_is_case") (nm := "_law_is_case") (q := "_law_is_case") (ps := defArgs s__law_is_case) (body := defBody s__law_is_case) (sc := defScope s__law_is_case) rfl rfl
  exact fnI_mk (nb := 0) Fd hm (Fd.bindsN fun _ _ _ _ _ _ us hl => match us, hl with | [_, _], _ => rfl) ⟨rfl, rfl, rfl, by decide +kernel, rfl, by decide +kernel, by decide +kernel⟩ (fun cdv A outer s H E C J => w__law_is_case GL ER f__law_common f__law_is_lot cdv A outer s H E C J) p__law_is_case
theorem i__law_all_met {P0 : Program} {w : World} {K : PySem.W.Frag} {mg : Str → Option Value} {base : Heap} {h : Heap} {es : List DictEntry} {fI : Addr} (Y : Hw.Sy 9 nms sns K es) (X : K.In h) (G : h.Ns mainGlobals mg) (GL : Glob mg) (ER : ErrsOk K mg ers errSub fI) (f__law_case_key : FnI P0 w K mg base 1 "_law_case_key" ["case"] S._law_case_key) (f__law_fits : FnI P0 w K mg base 2 "_law_fits" ["fields", "signs", "case"] S._law_fits) (f__law_is_case : FnI P0 w K mg base 2 "_law_is_case" ["fields", "thing"] S._law_is_case) : FnI P0 w K mg base 3 "_law_all_met" ["fields", "signs", "answer"] S._law_all_met := by
  obtain ⟨fd, hm, Fd⟩ := Y.fn X G 83 (x := "_law_all_met") (nm := "_law_all_met") (q := "_law_all_met") (ps := defArgs s__law_all_met) (body := defBody s__law_all_met) (sc := defScope s__law_all_met) rfl rfl
  exact fnI_mk (nb := 0) Fd hm (Fd.bindsN fun _ _ _ _ _ _ us hl => match us, hl with | [_, _, _], _ => rfl) ⟨rfl, rfl, rfl, by decide +kernel, rfl, by decide +kernel, by decide +kernel⟩ (fun cdv A outer s H E C J => w__law_all_met GL ER f__law_case_key f__law_fits f__law_is_case cdv A outer s H E C J) p__law_all_met
theorem i__law_cases {P0 : Program} {w : World} {K : PySem.W.Frag} {mg : Str → Option Value} {base : Heap} {h : Heap} {es : List DictEntry} {fI : Addr} (Y : Hw.Sy 9 nms sns K es) (X : K.In h) (G : h.Ns mainGlobals mg) (GL : Glob mg) (ER : ErrsOk K mg ers errSub fI) (f__law_case_key : FnI P0 w K mg base 1 "_law_case_key" ["case"] S._law_case_key) : FnI P0 w K mg base 4 "_law_cases" ["fields"] S._law_cases := by
  obtain ⟨fd, hm, Fd⟩ := Y.fn X G 65 (x := "_law_cases") (nm := "_law_cases") (q := "_law_cases") (ps := defArgs s__law_cases) (body := defBody s__law_cases) (sc := defScope s__law_cases) rfl rfl
  exact fnI_mk (nb := 0) Fd hm (Fd.bindsN fun _ _ _ _ _ _ us hl => match us, hl with | [_], _ => rfl) ⟨rfl, rfl, rfl, by decide +kernel, rfl, by decide +kernel, by decide +kernel⟩ (fun cdv A outer s H E C J => w__law_cases GL ER f__law_case_key cdv A outer s H E C J) p__law_cases
theorem i_lot_on {P0 : Program} {w : World} {K : PySem.W.Frag} {mg : Str → Option Value} {base : Heap} {h : Heap} {es : List DictEntry} {fI : Addr} (Y : Hw.Sy 9 nms sns K es) (X : K.In h) (G : h.Ns mainGlobals mg) (GL : Glob mg) (ER : ErrsOk K mg ers errSub fI) : FnI P0 w K mg base 1 "lot_on" ["fields", "text"] S.lot_on := by
  obtain ⟨fd, hm, Fd⟩ := Y.fn X G 37 (x := "lot_on") (nm := "lot_on") (q := "lot_on") (ps := defArgs s_lot_on) (body := defBody s_lot_on) (sc := defScope s_lot_on) rfl rfl
  exact fnI_mk (nb := 0) Fd hm (Fd.bindsN fun _ _ _ _ _ _ us hl => match us, hl with | [_, _], _ => rfl) ⟨rfl, rfl, rfl, by decide +kernel, rfl, by decide +kernel, by decide +kernel⟩ (fun cdv A outer s H E C J => w_lot_on GL ER cdv A outer s H E C J) p_lot_on
theorem i_shared {P0 : Program} {w : World} {K : PySem.W.Frag} {mg : Str → Option Value} {base : Heap} {h : Heap} {es : List DictEntry} {fI : Addr} (Y : Hw.Sy 9 nms sns K es) (X : K.In h) (G : h.Ns mainGlobals mg) (GL : Glob mg) (ER : ErrsOk K mg ers errSub fI) : FnI P0 w K mg base 1 "shared" ["one", "two"] S.shared := by
  obtain ⟨fd, hm, Fd⟩ := Y.fn X G 39 (x := "shared") (nm := "shared") (q := "shared") (ps := defArgs s_shared) (body := defBody s_shared) (sc := defScope s_shared) rfl rfl
  exact fnI_mk (nb := 0) Fd hm (Fd.bindsN fun _ _ _ _ _ _ us hl => match us, hl with | [_, _], _ => rfl) ⟨rfl, rfl, rfl, by decide +kernel, rfl, by decide +kernel, by decide +kernel⟩ (fun cdv A outer s H E C J => w_shared GL ER cdv A outer s H E C J) p_shared
theorem i_case_on {P0 : Program} {w : World} {K : PySem.W.Frag} {mg : Str → Option Value} {base : Heap} {h : Heap} {es : List DictEntry} {fI : Addr} (Y : Hw.Sy 9 nms sns K es) (X : K.In h) (G : h.Ns mainGlobals mg) (GL : Glob mg) (ER : ErrsOk K mg ers errSub fI) (f_lot_on : FnI P0 w K mg base 1 "lot_on" ["fields", "text"] S.lot_on) (f_shared : FnI P0 w K mg base 1 "shared" ["one", "two"] S.shared) : FnI P0 w K mg base 2 "case_on" ["fields", "case"] S.case_on := by
  obtain ⟨fd, hm, Fd⟩ := Y.fn X G 44 (x := "case_on") (nm := "case_on") (q := "case_on") (ps := defArgs s_case_on) (body := defBody s_case_on) (sc := defScope s_case_on) rfl rfl
  exact fnI_mk (nb := 0) Fd hm (Fd.bindsN fun _ _ _ _ _ _ us hl => match us, hl with | [_, _], _ => rfl) ⟨rfl, rfl, rfl, by decide +kernel, rfl, by decide +kernel, by decide +kernel⟩ (fun cdv A outer s H E C J => w_case_on GL ER f_lot_on f_shared cdv A outer s H E C J) p_case_on
theorem i_check_fields {P0 : Program} {w : World} {K : PySem.W.Frag} {mg : Str → Option Value} {base : Heap} {h : Heap} {es : List DictEntry} {fI : Addr} (Y : Hw.Sy 9 nms sns K es) (X : K.In h) (G : h.Ns mainGlobals mg) (GL : Glob mg) (ER : ErrsOk K mg ers errSub fI) (f_lot_on : FnI P0 w K mg base 1 "lot_on" ["fields", "text"] S.lot_on) : FnI P0 w K mg base 2 "check_fields" ["fields"] S.check_fields := by
  obtain ⟨fd, hm, Fd⟩ := Y.fn X G 43 (x := "check_fields") (nm := "check_fields") (q := "check_fields") (ps := defArgs s_check_fields) (body := defBody s_check_fields) (sc := defScope s_check_fields) rfl rfl
  exact fnI_mk (nb := 0) Fd hm (Fd.bindsN fun _ _ _ _ _ _ us hl => match us, hl with | [_], _ => rfl) ⟨rfl, rfl, rfl, by decide +kernel, rfl, by decide +kernel, by decide +kernel⟩ (fun cdv A outer s H E C J => w_check_fields GL ER f_lot_on cdv A outer s H E C J) p_check_fields
theorem i_check_case {P0 : Program} {w : World} {K : PySem.W.Frag} {mg : Str → Option Value} {base : Heap} {h : Heap} {es : List DictEntry} {fI : Addr} (Y : Hw.Sy 9 nms sns K es) (X : K.In h) (G : h.Ns mainGlobals mg) (GL : Glob mg) (ER : ErrsOk K mg ers errSub fI) (f_case_on : FnI P0 w K mg base 2 "case_on" ["fields", "case"] S.case_on) (f_check_fields : FnI P0 w K mg base 2 "check_fields" ["fields"] S.check_fields) : FnI P0 w K mg base 3 "check_case" ["fields", "case"] S.check_case := by
  obtain ⟨fd, hm, Fd⟩ := Y.fn X G 47 (x := "check_case") (nm := "check_case") (q := "check_case") (ps := defArgs s_check_case) (body := defBody s_check_case) (sc := defScope s_check_case) rfl rfl
  exact fnI_mk (nb := 0) Fd hm (Fd.bindsN fun _ _ _ _ _ _ us hl => match us, hl with | [_, _], _ => rfl) ⟨rfl, rfl, rfl, by decide +kernel, rfl, by decide +kernel, by decide +kernel⟩ (fun cdv A outer s H E C J => w_check_case GL ER f_case_on f_check_fields cdv A outer s H E C J) p_check_case
theorem i_joined {P0 : Program} {w : World} {K : PySem.W.Frag} {mg : Str → Option Value} {base : Heap} {h : Heap} {es : List DictEntry} {fI : Addr} (Y : Hw.Sy 9 nms sns K es) (X : K.In h) (G : h.Ns mainGlobals mg) (GL : Glob mg) (ER : ErrsOk K mg ers errSub fI) : FnI P0 w K mg base 1 "joined" ["one", "two"] S.joined := by
  obtain ⟨fd, hm, Fd⟩ := Y.fn X G 38 (x := "joined") (nm := "joined") (q := "joined") (ps := defArgs s_joined) (body := defBody s_joined) (sc := defScope s_joined) rfl rfl
  exact fnI_mk (nb := 0) Fd hm (Fd.bindsN fun _ _ _ _ _ _ us hl => match us, hl with | [_, _], _ => rfl) ⟨rfl, rfl, rfl, by decide +kernel, rfl, by decide +kernel, by decide +kernel⟩ (fun cdv A outer s H E C J => w_joined GL ER cdv A outer s H E C J) p_joined
theorem i_unlike_fields {P0 : Program} {w : World} {K : PySem.W.Frag} {mg : Str → Option Value} {base : Heap} {h : Heap} {es : List DictEntry} {fI : Addr} (Y : Hw.Sy 9 nms sns K es) (X : K.In h) (G : h.Ns mainGlobals mg) (GL : Glob mg) (ER : ErrsOk K mg ers errSub fI) (f_joined : FnI P0 w K mg base 1 "joined" ["one", "two"] S.joined) (f_shared : FnI P0 w K mg base 1 "shared" ["one", "two"] S.shared) : FnI P0 w K mg base 2 "unlike_fields" ["one", "two"] S.unlike_fields := by
  obtain ⟨fd, hm, Fd⟩ := Y.fn X G 48 (x := "unlike_fields") (nm := "unlike_fields") (q := "unlike_fields") (ps := defArgs s_unlike_fields) (body := defBody s_unlike_fields) (sc := defScope s_unlike_fields) rfl rfl
  exact fnI_mk (nb := 0) Fd hm (Fd.bindsN fun _ _ _ _ _ _ us hl => match us, hl with | [_, _], _ => rfl) ⟨rfl, rfl, rfl, by decide +kernel, rfl, by decide +kernel, by decide +kernel⟩ (fun cdv A outer s H E C J => w_unlike_fields GL ER f_joined f_shared cdv A outer s H E C J) p_unlike_fields
theorem i_without {P0 : Program} {w : World} {K : PySem.W.Frag} {mg : Str → Option Value} {base : Heap} {h : Heap} {es : List DictEntry} {fI : Addr} (Y : Hw.Sy 9 nms sns K es) (X : K.In h) (G : h.Ns mainGlobals mg) (GL : Glob mg) (ER : ErrsOk K mg ers errSub fI) : FnI P0 w K mg base 1 "without" ["one", "two"] S.without := by
  obtain ⟨fd, hm, Fd⟩ := Y.fn X G 40 (x := "without") (nm := "without") (q := "without") (ps := defArgs s_without) (body := defBody s_without) (sc := defScope s_without) rfl rfl
  exact fnI_mk (nb := 0) Fd hm (Fd.bindsN fun _ _ _ _ _ _ us hl => match us, hl with | [_, _], _ => rfl) ⟨rfl, rfl, rfl, by decide +kernel, rfl, by decide +kernel, by decide +kernel⟩ (fun cdv A outer s H E C J => w_without GL ER cdv A outer s H E C J) p_without
theorem i_settled {P0 : Program} {w : World} {K : PySem.W.Frag} {mg : Str → Option Value} {base : Heap} {h : Heap} {es : List DictEntry} {fI : Addr} (Y : Hw.Sy 9 nms sns K es) (X : K.In h) (G : h.Ns mainGlobals mg) (GL : Glob mg) (ER : ErrsOk K mg ers errSub fI) (f_joined : FnI P0 w K mg base 1 "joined" ["one", "two"] S.joined) (f_unlike_fields : FnI P0 w K mg base 2 "unlike_fields" ["one", "two"] S.unlike_fields) (f_without : FnI P0 w K mg base 1 "without" ["one", "two"] S.without) : FnI P0 w K mg base 3 "settled" ["one", "two"] S.settled := by
  obtain ⟨fd, hm, Fd⟩ := Y.fn X G 49 (x := "settled") (nm := "settled") (q := "settled") (ps := defArgs s_settled) (body := defBody s_settled) (sc := defScope s_settled) rfl rfl
  exact fnI_mk (nb := 0) Fd hm (Fd.bindsN fun _ _ _ _ _ _ us hl => match us, hl with | [_, _], _ => rfl) ⟨rfl, rfl, rfl, by decide +kernel, rfl, by decide +kernel, by decide +kernel⟩ (fun cdv A outer s H E C J => w_settled GL ER f_joined f_unlike_fields f_without cdv A outer s H E C J) p_settled
theorem i_is_meeting {P0 : Program} {w : World} {K : PySem.W.Frag} {mg : Str → Option Value} {base : Heap} {h : Heap} {es : List DictEntry} {fI : Addr} (Y : Hw.Sy 9 nms sns K es) (X : K.In h) (G : h.Ns mainGlobals mg) (GL : Glob mg) (ER : ErrsOk K mg ers errSub fI) (f_check_case : FnI P0 w K mg base 3 "check_case" ["fields", "case"] S.check_case) (f_settled : FnI P0 w K mg base 3 "settled" ["one", "two"] S.settled) (f_unlike_fields : FnI P0 w K mg base 2 "unlike_fields" ["one", "two"] S.unlike_fields) (f_without : FnI P0 w K mg base 1 "without" ["one", "two"] S.without) : FnI P0 w K mg base 4 "is_meeting" ["fields", "one", "two", "third"] S.is_meeting := by
  obtain ⟨fd, hm, Fd⟩ := Y.fn X G 50 (x := "is_meeting") (nm := "is_meeting") (q := "is_meeting") (ps := defArgs s_is_meeting) (body := defBody s_is_meeting) (sc := defScope s_is_meeting) rfl rfl
  exact fnI_mk (nb := 0) Fd hm (Fd.bindsN fun _ _ _ _ _ _ us hl => match us, hl with | [_, _, _, _], _ => rfl) ⟨rfl, rfl, rfl, by decide +kernel, rfl, by decide +kernel, by decide +kernel⟩ (fun cdv A outer s H E C J => w_is_meeting GL ER f_check_case f_settled f_unlike_fields f_without cdv A outer s H E C J) p_is_meeting
theorem i_lot_place {P0 : Program} {w : World} {K : PySem.W.Frag} {mg : Str → Option Value} {base : Heap} {h : Heap} {es : List DictEntry} {fI : Addr} (Y : Hw.Sy 9 nms sns K es) (X : K.In h) (G : h.Ns mainGlobals mg) (GL : Glob mg) (ER : ErrsOk K mg ers errSub fI) : FnI P0 w K mg base 1 "lot_place" ["lot"] S.lot_place := by
  obtain ⟨fd, hm, Fd⟩ := Y.fn X G 41 (x := "lot_place") (nm := "lot_place") (q := "lot_place") (ps := defArgs s_lot_place) (body := defBody s_lot_place) (sc := defScope s_lot_place) rfl rfl
  exact fnI_mk (nb := 0) Fd hm (Fd.bindsN fun _ _ _ _ _ _ us hl => match us, hl with | [_], _ => rfl) ⟨rfl, rfl, rfl, by decide +kernel, rfl, by decide +kernel, by decide +kernel⟩ (fun cdv A outer s H E C J => w_lot_place GL ER cdv A outer s H E C J) p_lot_place
theorem i_case_place {P0 : Program} {w : World} {K : PySem.W.Frag} {mg : Str → Option Value} {base : Heap} {h : Heap} {es : List DictEntry} {fI : Addr} (Y : Hw.Sy 9 nms sns K es) (X : K.In h) (G : h.Ns mainGlobals mg) (GL : Glob mg) (ER : ErrsOk K mg ers errSub fI) (f_lot_place : FnI P0 w K mg base 1 "lot_place" ["lot"] S.lot_place) : FnI P0 w K mg base 2 "case_place" ["case"] S.case_place := by
  obtain ⟨fd, hm, Fd⟩ := Y.fn X G 45 (x := "case_place") (nm := "case_place") (q := "case_place") (ps := defArgs s_case_place) (body := defBody s_case_place) (sc := defScope s_case_place) rfl rfl
  exact fnI_mk (nb := 0) Fd hm (Fd.bindsN fun _ _ _ _ _ _ us hl => match us, hl with | [_], _ => rfl) ⟨rfl, rfl, rfl, by decide +kernel, rfl, by decide +kernel, by decide +kernel⟩ (fun cdv A outer s H E C J => w_case_place GL ER f_lot_place cdv A outer s H E C J) p_case_place
theorem i_parts_of {P0 : Program} {w : World} {K : PySem.W.Frag} {mg : Str → Option Value} {base : Heap} {h : Heap} {es : List DictEntry} {fI : Addr} (Y : Hw.Sy 9 nms sns K es) (X : K.In h) (G : h.Ns mainGlobals mg) (GL : Glob mg) (ER : ErrsOk K mg ers errSub fI) (f_lot_place : FnI P0 w K mg base 1 "lot_place" ["lot"] S.lot_place) : FnI P0 w K mg base 4 "parts_of" ["lot"] S.parts_of := by
  obtain ⟨fd, hm, Fd⟩ := Y.fn X G 42 (x := "parts_of") (nm := "parts_of") (q := "parts_of") (ps := defArgs s_parts_of) (body := defBody s_parts_of) (sc := defScope s_parts_of) rfl rfl
  exact fnI_mk (nb := 0) Fd hm (Fd.bindsN fun _ _ _ _ _ _ us hl => match us, hl with | [_], _ => rfl) ⟨rfl, rfl, rfl, by decide +kernel, rfl, by decide +kernel, by decide +kernel⟩ (fun cdv A outer s H E C J => w_parts_of GL ER f_lot_place cdv A outer s H E C J) p_parts_of
theorem i_pairs_in {P0 : Program} {w : World} {K : PySem.W.Frag} {mg : Str → Option Value} {base : Heap} {h : Heap} {es : List DictEntry} {fI : Addr} (Y : Hw.Sy 9 nms sns K es) (X : K.In h) (G : h.Ns mainGlobals mg) (GL : Glob mg) (ER : ErrsOk K mg ers errSub fI) (f_parts_of : FnI P0 w K mg base 4 "parts_of" ["lot"] S.parts_of) (f_without : FnI P0 w K mg base 1 "without" ["one", "two"] S.without) : FnI P0 w K mg base 5 "pairs_in" ["lot"] S.pairs_in := by
  obtain ⟨fd, hm, Fd⟩ := Y.fn X G 46 (x := "pairs_in") (nm := "pairs_in") (q := "pairs_in") (ps := defArgs s_pairs_in) (body := defBody s_pairs_in) (sc := defScope s_pairs_in) rfl rfl
  exact fnI_mk (nb := 0) Fd hm (Fd.bindsN fun _ _ _ _ _ _ us hl => match us, hl with | [_], _ => rfl) ⟨rfl, rfl, rfl, by decide +kernel, rfl, by decide +kernel, by decide +kernel⟩ (fun cdv A outer s H E C J => w_pairs_in GL ER f_parts_of f_without cdv A outer s H E C J) p_pairs_in
theorem i_meetings {P0 : Program} {w : World} {K : PySem.W.Frag} {mg : Str → Option Value} {base : Heap} {h : Heap} {es : List DictEntry} {fI : Addr} (Y : Hw.Sy 9 nms sns K es) (X : K.In h) (G : h.Ns mainGlobals mg) (GL : Glob mg) (ER : ErrsOk K mg ers errSub fI) (f_case_place : FnI P0 w K mg base 2 "case_place" ["case"] S.case_place) (f_check_case : FnI P0 w K mg base 3 "check_case" ["fields", "case"] S.check_case) (f_joined : FnI P0 w K mg base 1 "joined" ["one", "two"] S.joined) (f_pairs_in : FnI P0 w K mg base 5 "pairs_in" ["lot"] S.pairs_in) (f_settled : FnI P0 w K mg base 3 "settled" ["one", "two"] S.settled) (f_unlike_fields : FnI P0 w K mg base 2 "unlike_fields" ["one", "two"] S.unlike_fields) : FnI P0 w K mg base 6 "meetings" ["fields", "one", "two"] S.meetings := by
  obtain ⟨fd, hm, Fd⟩ := Y.fn X G 51 (x := "meetings") (nm := "meetings") (q := "meetings") (ps := defArgs s_meetings) (body := defBody s_meetings) (sc := defScope s_meetings) rfl rfl
  exact fnI_mk (nb := 0) Fd hm (Fd.bindsN fun _ _ _ _ _ _ us hl => match us, hl with | [_, _, _], _ => rfl) ⟨rfl, rfl, rfl, by decide +kernel, rfl, by decide +kernel, by decide +kernel⟩ (fun cdv A outer s H E C J => w_meetings GL ER f_case_place f_check_case f_joined f_pairs_in f_settled f_unlike_fields cdv A outer s H E C J) p_meetings
theorem i__law_asked {P0 : Program} {w : World} {K : PySem.W.Frag} {mg : Str → Option Value} {base : Heap} {h : Heap} {es : List DictEntry} {fI : Addr} (Y : Hw.Sy 9 nms sns K es) (X : K.In h) (G : h.Ns mainGlobals mg) (GL : Glob mg) (ER : ErrsOk K mg ers errSub fI) (f_is_meeting : FnI P0 w K mg base 4 "is_meeting" ["fields", "one", "two", "third"] S.is_meeting) (f_meetings : FnI P0 w K mg base 6 "meetings" ["fields", "one", "two"] S.meetings) : FnI P0 w K mg base 7 "_law_asked" ["which", "fields", "one", "two", "third"] S._law_asked := by
  obtain ⟨fd, hm, Fd⟩ := Y.fn X G 84 (x := "_law_asked") (nm := "_law_asked") (q := "_law_asked") (ps := defArgs s__law_asked) (body := defBody s__law_asked) (sc := defScope s__law_asked) rfl rfl
  exact fnI_mk (nb := 0) Fd hm (Fd.bindsN fun _ _ _ _ _ _ us hl => match us, hl with | [_, _, _, _, _], _ => rfl) ⟨rfl, rfl, rfl, by decide +kernel, rfl, by decide +kernel, by decide +kernel⟩ (fun cdv A outer s H E C J => w__law_asked GL ER f_is_meeting f_meetings cdv A outer s H E C J) p__law_asked
theorem i__law_rising {P0 : Program} {w : World} {K : PySem.W.Frag} {mg : Str → Option Value} {base : Heap} {h : Heap} {es : List DictEntry} {fI : Addr} (Y : Hw.Sy 9 nms sns K es) (X : K.In h) (G : h.Ns mainGlobals mg) (GL : Glob mg) (ER : ErrsOk K mg ers errSub fI) : FnI P0 w K mg base 1 "_law_rising" ["fields", "text"] S._law_rising := by
  obtain ⟨fd, hm, Fd⟩ := Y.fn X G 81 (x := "_law_rising") (nm := "_law_rising") (q := "_law_rising") (ps := defArgs s__law_rising) (body := defBody s__law_rising) (sc := defScope s__law_rising) rfl rfl
  exact fnI_mk (nb := 0) Fd hm (Fd.bindsN fun _ _ _ _ _ _ us hl => match us, hl with | [_, _], _ => rfl) ⟨rfl, rfl, rfl, by decide +kernel, rfl, by decide +kernel, by decide +kernel⟩ (fun cdv A outer s H E C J => w__law_rising GL ER cdv A outer s H E C J) p__law_rising
theorem i__law_right_case {P0 : Program} {w : World} {K : PySem.W.Frag} {mg : Str → Option Value} {base : Heap} {h : Heap} {es : List DictEntry} {fI : Addr} (Y : Hw.Sy 9 nms sns K es) (X : K.In h) (G : h.Ns mainGlobals mg) (GL : Glob mg) (ER : ErrsOk K mg ers errSub fI) (f__law_rising : FnI P0 w K mg base 1 "_law_rising" ["fields", "text"] S._law_rising) : FnI P0 w K mg base 2 "_law_right_case" ["fields", "case"] S._law_right_case := by
  obtain ⟨fd, hm, Fd⟩ := Y.fn X G 82 (x := "_law_right_case") (nm := "_law_right_case") (q := "_law_right_case") (ps := defArgs s__law_right_case) (body := defBody s__law_right_case) (sc := defScope s__law_right_case) rfl rfl
  exact fnI_mk (nb := 0) Fd hm (Fd.bindsN fun _ _ _ _ _ _ us hl => match us, hl with | [_, _], _ => rfl) ⟨rfl, rfl, rfl, by decide +kernel, rfl, by decide +kernel, by decide +kernel⟩ (fun cdv A outer s H E C J => w__law_right_case GL ER f__law_rising cdv A outer s H E C J) p__law_right_case
theorem i__law_refusal {P0 : Program} {w : World} {K : PySem.W.Frag} {mg : Str → Option Value} {base : Heap} {h : Heap} {es : List DictEntry} {fI : Addr} (Y : Hw.Sy 9 nms sns K es) (X : K.In h) (G : h.Ns mainGlobals mg) (GL : Glob mg) (ER : ErrsOk K mg ers errSub fI) (f__law_right_case : FnI P0 w K mg base 2 "_law_right_case" ["fields", "case"] S._law_right_case) (f__law_rising : FnI P0 w K mg base 1 "_law_rising" ["fields", "text"] S._law_rising) : FnI P0 w K mg base 3 "_law_refusal" ["which", "fields", "one", "two", "third"] S._law_refusal := by
  obtain ⟨fd, hm, Fd⟩ := Y.fn X G 85 (x := "_law_refusal") (nm := "_law_refusal") (q := "_law_refusal") (ps := defArgs s__law_refusal) (body := defBody s__law_refusal) (sc := defScope s__law_refusal) rfl rfl
  exact fnI_mk (nb := 0) Fd hm (Fd.bindsN fun _ _ _ _ _ _ us hl => match us, hl with | [_, _, _, _, _], _ => rfl) ⟨rfl, rfl, rfl, by decide +kernel, rfl, by decide +kernel, by decide +kernel⟩ (fun cdv A outer s H E C J => w__law_refusal GL ER f__law_right_case f__law_rising cdv A outer s H E C J) p__law_refusal
theorem i__law_same_plain {P0 : Program} {w : World} {K : PySem.W.Frag} {mg : Str → Option Value} {base : Heap} {h : Heap} {es : List DictEntry} {fI : Addr} (Y : Hw.Sy 9 nms sns K es) (X : K.In h) (G : h.Ns mainGlobals mg) (GL : Glob mg) (ER : ErrsOk K mg ers errSub fI) : FnI P0 w K mg base 1 "_law_same_plain" ["x", "y"] S._law_same_plain := by
  obtain ⟨fd, hm, Fd⟩ := Y.fn X G 69 (x := "_law_same_plain") (nm := "_law_same_plain") (q := "_law_same_plain") (ps := defArgs s__law_same_plain) (body := defBody s__law_same_plain) (sc := defScope s__law_same_plain) rfl rfl
  exact fnI_mk (nb := 0) Fd hm (Fd.bindsN fun _ _ _ _ _ _ us hl => match us, hl with | [_, _], _ => rfl) ⟨rfl, rfl, rfl, by decide +kernel, rfl, by decide +kernel, by decide +kernel⟩ (fun cdv A outer s H E C J => w__law_same_plain GL ER cdv A outer s H E C J) p__law_same_plain
theorem i__law_same {P0 : Program} {w : World} {K : PySem.W.Frag} {mg : Str → Option Value} {base : Heap} {h : Heap} {es : List DictEntry} {fI : Addr} (Y : Hw.Sy 9 nms sns K es) (X : K.In h) (G : h.Ns mainGlobals mg) (GL : Glob mg) (ER : ErrsOk K mg ers errSub fI) (f__law_same_plain : FnI P0 w K mg base 1 "_law_same_plain" ["x", "y"] S._law_same_plain) : FnI P0 w K mg base 2 "_law_same" ["answer", "due"] S._law_same := by
  obtain ⟨fd, hm, Fd⟩ := Y.fn X G 68 (x := "_law_same") (nm := "_law_same") (q := "_law_same") (ps := defArgs s__law_same) (body := defBody s__law_same) (sc := defScope s__law_same) rfl rfl
  exact fnI_mk (nb := 0) Fd hm (Fd.bindsN fun _ _ _ _ _ _ us hl => match us, hl with | [_, _], _ => rfl) ⟨rfl, rfl, rfl, by decide +kernel, rfl, by decide +kernel, by decide +kernel⟩ (fun cdv A outer s H E C J => w__law_same GL ER f__law_same_plain cdv A outer s H E C J) p__law_same
theorem i__law_sign {P0 : Program} {w : World} {K : PySem.W.Frag} {mg : Str → Option Value} {base : Heap} {h : Heap} {es : List DictEntry} {fI : Addr} (Y : Hw.Sy 9 nms sns K es) (X : K.In h) (G : h.Ns mainGlobals mg) (GL : Glob mg) (ER : ErrsOk K mg ers errSub fI) : FnI P0 w K mg base 1 "_law_sign" ["x", "y"] S._law_sign := by
  obtain ⟨fd, hm, Fd⟩ := Y.fn X G 72 (x := "_law_sign") (nm := "_law_sign") (q := "_law_sign") (ps := defArgs s__law_sign) (body := defBody s__law_sign) (sc := defScope s__law_sign) rfl rfl
  exact fnI_mk (nb := 0) Fd hm (Fd.bindsN fun _ _ _ _ _ _ us hl => match us, hl with | [_, _], _ => rfl) ⟨rfl, rfl, rfl, by decide +kernel, rfl, by decide +kernel, by decide +kernel⟩ (fun cdv A outer s H E C J => w__law_sign GL ER cdv A outer s H E C J) p__law_sign
theorem i__law_shown {P0 : Program} {w : World} {K : PySem.W.Frag} {mg : Str → Option Value} {base : Heap} {h : Heap} {es : List DictEntry} {fI : Addr} (Y : Hw.Sy 9 nms sns K es) (X : K.In h) (G : h.Ns mainGlobals mg) (GL : Glob mg) (ER : ErrsOk K mg ers errSub fI) (f__law_sign : FnI P0 w K mg base 1 "_law_sign" ["x", "y"] S._law_sign) : FnI P0 w K mg base 2 "_law_shown" ["sign", "other"] S._law_shown := by
  obtain ⟨fd, hm, Fd⟩ := Y.fn X G 73 (x := "_law_shown") (nm := "_law_shown") (q := "_law_shown") (ps := defArgs s__law_shown) (body := defBody s__law_shown) (sc := defScope s__law_shown) rfl rfl
  exact fnI_mk (nb := 0) Fd hm (Fd.bindsN fun _ _ _ _ _ _ us hl => match us, hl with | [_, _], _ => rfl) ⟨rfl, rfl, rfl, by decide +kernel, rfl, by decide +kernel, by decide +kernel⟩ (fun cdv A outer s H E C J => w__law_shown GL ER f__law_sign cdv A outer s H E C J) p__law_shown
theorem i__law_signs {P0 : Program} {w : World} {K : PySem.W.Frag} {mg : Str → Option Value} {base : Heap} {h : Heap} {es : List DictEntry} {fI : Addr} (Y : Hw.Sy 9 nms sns K es) (X : K.In h) (G : h.Ns mainGlobals mg) (GL : Glob mg) (ER : ErrsOk K mg ers errSub fI) (f__law_shown : FnI P0 w K mg base 2 "_law_shown" ["sign", "other"] S._law_shown) (f__law_sign_in : FnI P0 w K mg base 1 "_law_sign_in" ["case", "field"] S._law_sign_in) : FnI P0 w K mg base 3 "_law_signs" ["fields", "one", "two"] S._law_signs := by
  obtain ⟨fd, hm, Fd⟩ := Y.fn X G 75 (x := "_law_signs") (nm := "_law_signs") (q := "_law_signs") (ps := defArgs s__law_signs) (body := defBody s__law_signs) (sc := defScope s__law_signs) rfl rfl
  exact fnI_mk (nb := 0) Fd hm (Fd.bindsN fun _ _ _ _ _ _ us hl => match us, hl with | [_, _, _], _ => rfl) ⟨rfl, rfl, rfl, by decide +kernel, rfl, by decide +kernel, by decide +kernel⟩ (fun cdv A outer s H E C J => w__law_signs GL ER f__law_shown f__law_sign_in cdv A outer s H E C J) p__law_signs
theorem i__law_round {P0 : Program} {w : World} {K : PySem.W.Frag} {mg : Str → Option Value} {base : Heap} {h : Heap} {es : List DictEntry} {fI : Addr} (Y : Hw.Sy 9 nms sns K es) (X : K.In h) (G : h.Ns mainGlobals mg) (GL : Glob mg) (ER : ErrsOk K mg ers errSub fI) (f__law_all_met : FnI P0 w K mg base 3 "_law_all_met" ["fields", "signs", "answer"] S._law_all_met) (f__law_asked : FnI P0 w K mg base 7 "_law_asked" ["which", "fields", "one", "two", "third"] S._law_asked) (f__law_fits : FnI P0 w K mg base 2 "_law_fits" ["fields", "signs", "case"] S._law_fits) (f__law_refusal : FnI P0 w K mg base 3 "_law_refusal" ["which", "fields", "one", "two", "third"] S._law_refusal) (f__law_same : FnI P0 w K mg base 2 "_law_same" ["answer", "due"] S._law_same) (f__law_signs : FnI P0 w K mg base 3 "_law_signs" ["fields", "one", "two"] S._law_signs) : FnI P0 w K mg base 8 "_law_round" ["which", "fields", "one", "two", "third"] S._law_round := by
  obtain ⟨fd, hm, Fd⟩ := Y.fn X G 86 (x := "_law_round") (nm := "_law_round") (q := "_law_round") (ps := defArgs s__law_round) (body := defBody s__law_round) (sc := defScope s__law_round) rfl rfl
  exact fnI_mk (nb := 0) Fd hm (Fd.bindsN fun _ _ _ _ _ _ us hl => match us, hl with | [_, _, _, _, _], _ => rfl) ⟨rfl, rfl, rfl, by decide +kernel, rfl, by decide +kernel, by decide +kernel⟩ (fun cdv A outer s H E C J => w__law_round GL ER f__law_all_met f__law_asked f__law_fits f__law_refusal f__law_same f__law_signs cdv A outer s H E C J) p__law_round
theorem i__law_mix {P0 : Program} {w : World} {K : PySem.W.Frag} {mg : Str → Option Value} {base : Heap} {h : Heap} {es : List DictEntry} {fI : Addr} (Y : Hw.Sy 9 nms sns K es) (X : K.In h) (G : h.Ns mainGlobals mg) (GL : Glob mg) (ER : ErrsOk K mg ers errSub fI) : FnI P0 w K mg base 1 "_law_mix" ["number"] S._law_mix := by
  obtain ⟨fd, hm, Fd⟩ := Y.fn X G 52 (x := "_law_mix") (nm := "_law_mix") (q := "_law_mix") (ps := defArgs s__law_mix) (body := defBody s__law_mix) (sc := defScope s__law_mix) rfl rfl
  exact fnI_mk (nb := 0) Fd hm (Fd.bindsN fun _ _ _ _ _ _ us hl => match us, hl with | [_], _ => rfl) ⟨rfl, rfl, rfl, by decide +kernel, rfl, by decide +kernel, by decide +kernel⟩ (fun cdv A outer s H E C J => w__law_mix GL ER cdv A outer s H E C J) p__law_mix
theorem i__law_store {P0 : Program} {w : World} {K : PySem.W.Frag} {mg : Str → Option Value} {base : Heap} {h : Heap} {es : List DictEntry} {fI : Addr} (Y : Hw.Sy 9 nms sns K es) (X : K.In h) (G : h.Ns mainGlobals mg) (GL : Glob mg) (ER : ErrsOk K mg ers errSub fI) (f__law_mix : FnI P0 w K mg base 1 "_law_mix" ["number"] S._law_mix) : FnI P0 w K mg base 2 "_law_store" ["script"] S._law_store := by
  obtain ⟨fd, hm, Fd⟩ := Y.fn X G 53 (x := "_law_store") (nm := "_law_store") (q := "_law_store") (ps := defArgs s__law_store) (body := defBody s__law_store) (sc := defScope s__law_store) rfl rfl
  exact fnI_mk (nb := 0) Fd hm (Fd.bindsN fun _ _ _ _ _ _ us hl => match us, hl with | [_], _ => rfl) ⟨rfl, rfl, rfl, by decide +kernel, rfl, by decide +kernel, by decide +kernel⟩ (fun cdv A outer s H E C J => w__law_store GL ER f__law_mix cdv A outer s H E C J) p__law_store
theorem i__law_less {P0 : Program} {w : World} {K : PySem.W.Frag} {mg : Str → Option Value} {base : Heap} {h : Heap} {es : List DictEntry} {fI : Addr} (Y : Hw.Sy 9 nms sns K es) (X : K.In h) (G : h.Ns mainGlobals mg) (GL : Glob mg) (ER : ErrsOk K mg ers errSub fI) : FnI P0 w K mg base 1 "_law_less" ["one", "two"] S._law_less := by
  obtain ⟨fd, hm, Fd⟩ := Y.fn X G 62 (x := "_law_less") (nm := "_law_less") (q := "_law_less") (ps := defArgs s__law_less) (body := defBody s__law_less) (sc := defScope s__law_less) rfl rfl
  exact fnI_mk (nb := 0) Fd hm (Fd.bindsN fun _ _ _ _ _ _ us hl => match us, hl with | [_, _], _ => rfl) ⟨rfl, rfl, rfl, by decide +kernel, rfl, by decide +kernel, by decide +kernel⟩ (fun cdv A outer s H E C J => w__law_less GL ER cdv A outer s H E C J) p__law_less
theorem i__law_take {P0 : Program} {w : World} {K : PySem.W.Frag} {mg : Str → Option Value} {base : Heap} {h : Heap} {es : List DictEntry} {fI : Addr} (Y : Hw.Sy 9 nms sns K es) (X : K.In h) (G : h.Ns mainGlobals mg) (GL : Glob mg) (ER : ErrsOk K mg ers errSub fI) (f__law_mix : FnI P0 w K mg base 1 "_law_mix" ["number"] S._law_mix) : FnI P0 w K mg base 2 "_law_take" ["store", "many"] S._law_take := by
  obtain ⟨fd, hm, Fd⟩ := Y.fn X G 54 (x := "_law_take") (nm := "_law_take") (q := "_law_take") (ps := defArgs s__law_take) (body := defBody s__law_take) (sc := defScope s__law_take) rfl rfl
  exact fnI_mk (nb := 1) Fd hm (Fd.bindsN fun _ _ _ _ _ _ us hl => match us, hl with | [_, _], _ => rfl) ⟨rfl, rfl, rfl, by decide +kernel, rfl, by decide +kernel, by decide +kernel⟩ (fun cdv A outer s H E C J => w__law_take GL ER f__law_mix cdv A outer s H E C J) p__law_take
theorem i__law_pick {P0 : Program} {w : World} {K : PySem.W.Frag} {mg : Str → Option Value} {base : Heap} {h : Heap} {es : List DictEntry} {fI : Addr} (Y : Hw.Sy 9 nms sns K es) (X : K.In h) (G : h.Ns mainGlobals mg) (GL : Glob mg) (ER : ErrsOk K mg ers errSub fI) (f__law_take : FnI P0 w K mg base 2 "_law_take" ["store", "many"] S._law_take) : FnI P0 w K mg base 3 "_law_pick" ["store", "things"] S._law_pick := by
  obtain ⟨fd, hm, Fd⟩ := Y.fn X G 55 (x := "_law_pick") (nm := "_law_pick") (q := "_law_pick") (ps := defArgs s__law_pick) (body := defBody s__law_pick) (sc := defScope s__law_pick) rfl rfl
  exact fnI_mk (nb := 1) Fd hm (Fd.bindsN fun _ _ _ _ _ _ us hl => match us, hl with | [_, _], _ => rfl) ⟨rfl, rfl, rfl, by decide +kernel, rfl, by decide +kernel, by decide +kernel⟩ (fun cdv A outer s H E C J => w__law_pick GL ER f__law_take cdv A outer s H E C J) p__law_pick
theorem i__law_lot {P0 : Program} {w : World} {K : PySem.W.Frag} {mg : Str → Option Value} {base : Heap} {h : Heap} {es : List DictEntry} {fI : Addr} (Y : Hw.Sy 9 nms sns K es) (X : K.In h) (G : h.Ns mainGlobals mg) (GL : Glob mg) (ER : ErrsOk K mg ers errSub fI) (f__law_pick : FnI P0 w K mg base 3 "_law_pick" ["store", "things"] S._law_pick) (f__law_take : FnI P0 w K mg base 2 "_law_take" ["store", "many"] S._law_take) : FnI P0 w K mg base 4 "_law_lot" ["store", "fields"] S._law_lot := by
  obtain ⟨fd, hm, Fd⟩ := Y.fn X G 58 (x := "_law_lot") (nm := "_law_lot") (q := "_law_lot") (ps := defArgs s__law_lot) (body := defBody s__law_lot) (sc := defScope s__law_lot) rfl rfl
  exact fnI_mk (nb := 1) Fd hm (Fd.bindsN fun _ _ _ _ _ _ us hl => match us, hl with | [_, _], _ => rfl) ⟨rfl, rfl, rfl, by decide +kernel, rfl, by decide +kernel, by decide +kernel⟩ (fun cdv A outer s H E C J => w__law_lot GL ER f__law_pick f__law_take cdv A outer s H E C J) p__law_lot
theorem i__law_bad_lot {P0 : Program} {w : World} {K : PySem.W.Frag} {mg : Str → Option Value} {base : Heap} {h : Heap} {es : List DictEntry} {fI : Addr} (Y : Hw.Sy 9 nms sns K es) (X : K.In h) (G : h.Ns mainGlobals mg) (GL : Glob mg) (ER : ErrsOk K mg ers errSub fI) (f__law_less : FnI P0 w K mg base 1 "_law_less" ["one", "two"] S._law_less) (f__law_lot : FnI P0 w K mg base 4 "_law_lot" ["store", "fields"] S._law_lot) (f__law_pick : FnI P0 w K mg base 3 "_law_pick" ["store", "things"] S._law_pick) (f__law_take : FnI P0 w K mg base 2 "_law_take" ["store", "many"] S._law_take) : FnI P0 w K mg base 5 "_law_bad_lot" ["store", "fields"] S._law_bad_lot := by
  obtain ⟨fd, hm, Fd⟩ := Y.fn X G 59 (x := "_law_bad_lot") (nm := "_law_bad_lot") (q := "_law_bad_lot") (ps := defArgs s__law_bad_lot) (body := defBody s__law_bad_lot) (sc := defScope s__law_bad_lot) rfl rfl
  exact fnI_mk (nb := 1) Fd hm (Fd.bindsN fun _ _ _ _ _ _ us hl => match us, hl with | [_, _], _ => rfl) ⟨rfl, rfl, rfl, by decide +kernel, rfl, by decide +kernel, by decide +kernel⟩ (fun cdv A outer s H E C J => w__law_bad_lot GL ER f__law_less f__law_lot f__law_pick f__law_take cdv A outer s H E C J) p__law_bad_lot
theorem i__law_shuffled {P0 : Program} {w : World} {K : PySem.W.Frag} {mg : Str → Option Value} {base : Heap} {h : Heap} {es : List DictEntry} {fI : Addr} (Y : Hw.Sy 9 nms sns K es) (X : K.In h) (G : h.Ns mainGlobals mg) (GL : Glob mg) (ER : ErrsOk K mg ers errSub fI) (f__law_take : FnI P0 w K mg base 2 "_law_take" ["store", "many"] S._law_take) : FnI P0 w K mg base 3 "_law_shuffled" ["store", "things"] S._law_shuffled := by
  obtain ⟨fd, hm, Fd⟩ := Y.fn X G 56 (x := "_law_shuffled") (nm := "_law_shuffled") (q := "_law_shuffled") (ps := defArgs s__law_shuffled) (body := defBody s__law_shuffled) (sc := defScope s__law_shuffled) rfl rfl
  exact fnI_mk (nb := 1) Fd hm (Fd.bindsN fun _ _ _ _ _ _ us hl => match us, hl with | [_, _], _ => rfl) ⟨rfl, rfl, rfl, by decide +kernel, rfl, by decide +kernel, by decide +kernel⟩ (fun cdv A outer s H E C J => w__law_shuffled GL ER f__law_take cdv A outer s H E C J) p__law_shuffled
theorem i__law_case {P0 : Program} {w : World} {K : PySem.W.Frag} {mg : Str → Option Value} {base : Heap} {h : Heap} {es : List DictEntry} {fI : Addr} (Y : Hw.Sy 9 nms sns K es) (X : K.In h) (G : h.Ns mainGlobals mg) (GL : Glob mg) (ER : ErrsOk K mg ers errSub fI) (f__law_shuffled : FnI P0 w K mg base 3 "_law_shuffled" ["store", "things"] S._law_shuffled) (f__law_take : FnI P0 w K mg base 2 "_law_take" ["store", "many"] S._law_take) : FnI P0 w K mg base 4 "_law_case" ["store", "fields"] S._law_case := by
  obtain ⟨fd, hm, Fd⟩ := Y.fn X G 66 (x := "_law_case") (nm := "_law_case") (q := "_law_case") (ps := defArgs s__law_case) (body := defBody s__law_case) (sc := defScope s__law_case) rfl rfl
  exact fnI_mk (nb := 1) Fd hm (Fd.bindsN fun _ _ _ _ _ _ us hl => match us, hl with | [_, _], _ => rfl) ⟨rfl, rfl, rfl, by decide +kernel, rfl, by decide +kernel, by decide +kernel⟩ (fun cdv A outer s H E C J => w__law_case GL ER f__law_shuffled f__law_take cdv A outer s H E C J) p__law_case
theorem i__law_union {P0 : Program} {w : World} {K : PySem.W.Frag} {mg : Str → Option Value} {base : Heap} {h : Heap} {es : List DictEntry} {fI : Addr} (Y : Hw.Sy 9 nms sns K es) (X : K.In h) (G : h.Ns mainGlobals mg) (GL : Glob mg) (ER : ErrsOk K mg ers errSub fI) : FnI P0 w K mg base 1 "_law_union" ["one", "two"] S._law_union := by
  obtain ⟨fd, hm, Fd⟩ := Y.fn X G 63 (x := "_law_union") (nm := "_law_union") (q := "_law_union") (ps := defArgs s__law_union) (body := defBody s__law_union) (sc := defScope s__law_union) rfl rfl
  exact fnI_mk (nb := 0) Fd hm (Fd.bindsN fun _ _ _ _ _ _ us hl => match us, hl with | [_, _], _ => rfl) ⟨rfl, rfl, rfl, by decide +kernel, rfl, by decide +kernel, by decide +kernel⟩ (fun cdv A outer s H E C J => w__law_union GL ER cdv A outer s H E C J) p__law_union
theorem i__law_bad_case {P0 : Program} {w : World} {K : PySem.W.Frag} {mg : Str → Option Value} {base : Heap} {h : Heap} {es : List DictEntry} {fI : Addr} (Y : Hw.Sy 9 nms sns K es) (X : K.In h) (G : h.Ns mainGlobals mg) (GL : Glob mg) (ER : ErrsOk K mg ers errSub fI) (f__law_bad_lot : FnI P0 w K mg base 5 "_law_bad_lot" ["store", "fields"] S._law_bad_lot) (f__law_case : FnI P0 w K mg base 4 "_law_case" ["store", "fields"] S._law_case) (f__law_pick : FnI P0 w K mg base 3 "_law_pick" ["store", "things"] S._law_pick) (f__law_take : FnI P0 w K mg base 2 "_law_take" ["store", "many"] S._law_take) (f__law_union : FnI P0 w K mg base 1 "_law_union" ["one", "two"] S._law_union) : FnI P0 w K mg base 6 "_law_bad_case" ["store", "fields"] S._law_bad_case := by
  obtain ⟨fd, hm, Fd⟩ := Y.fn X G 67 (x := "_law_bad_case") (nm := "_law_bad_case") (q := "_law_bad_case") (ps := defArgs s__law_bad_case) (body := defBody s__law_bad_case) (sc := defScope s__law_bad_case) rfl rfl
  exact fnI_mk (nb := 1) Fd hm (Fd.bindsN fun _ _ _ _ _ _ us hl => match us, hl with | [_, _], _ => rfl) ⟨rfl, rfl, rfl, by decide +kernel, rfl, by decide +kernel, by decide +kernel⟩ (fun cdv A outer s H E C J => w__law_bad_case GL ER f__law_bad_lot f__law_case f__law_pick f__law_take f__law_union cdv A outer s H E C J) p__law_bad_case
theorem i__law_any_case {P0 : Program} {w : World} {K : PySem.W.Frag} {mg : Str → Option Value} {base : Heap} {h : Heap} {es : List DictEntry} {fI : Addr} (Y : Hw.Sy 9 nms sns K es) (X : K.In h) (G : h.Ns mainGlobals mg) (GL : Glob mg) (ER : ErrsOk K mg ers errSub fI) (f__law_bad_case : FnI P0 w K mg base 6 "_law_bad_case" ["store", "fields"] S._law_bad_case) (f__law_case : FnI P0 w K mg base 4 "_law_case" ["store", "fields"] S._law_case) (f__law_take : FnI P0 w K mg base 2 "_law_take" ["store", "many"] S._law_take) : FnI P0 w K mg base 7 "_law_any_case" ["store", "fields"] S._law_any_case := by
  obtain ⟨fd, hm, Fd⟩ := Y.fn X G 79 (x := "_law_any_case") (nm := "_law_any_case") (q := "_law_any_case") (ps := defArgs s__law_any_case) (body := defBody s__law_any_case) (sc := defScope s__law_any_case) rfl rfl
  exact fnI_mk (nb := 1) Fd hm (Fd.bindsN fun _ _ _ _ _ _ us hl => match us, hl with | [_, _], _ => rfl) ⟨rfl, rfl, rfl, by decide +kernel, rfl, by decide +kernel, by decide +kernel⟩ (fun cdv A outer s H E C J => w__law_any_case GL ER f__law_bad_case f__law_case f__law_take cdv A outer s H E C J) p__law_any_case
theorem i__law_bad_fields {P0 : Program} {w : World} {K : PySem.W.Frag} {mg : Str → Option Value} {base : Heap} {h : Heap} {es : List DictEntry} {fI : Addr} (Y : Hw.Sy 9 nms sns K es) (X : K.In h) (G : h.Ns mainGlobals mg) (GL : Glob mg) (ER : ErrsOk K mg ers errSub fI) (f__law_bad_lot : FnI P0 w K mg base 5 "_law_bad_lot" ["store", "fields"] S._law_bad_lot) (f__law_take : FnI P0 w K mg base 2 "_law_take" ["store", "many"] S._law_take) : FnI P0 w K mg base 6 "_law_bad_fields" ["store"] S._law_bad_fields := by
  obtain ⟨fd, hm, Fd⟩ := Y.fn X G 60 (x := "_law_bad_fields") (nm := "_law_bad_fields") (q := "_law_bad_fields") (ps := defArgs s__law_bad_fields) (body := defBody s__law_bad_fields) (sc := defScope s__law_bad_fields) rfl rfl
  exact fnI_mk (nb := 1) Fd hm (Fd.bindsN fun _ _ _ _ _ _ us hl => match us, hl with | [_], _ => rfl) ⟨rfl, rfl, rfl, by decide +kernel, rfl, by decide +kernel, by decide +kernel⟩ (fun cdv A outer s H E C J => w__law_bad_fields GL ER f__law_bad_lot f__law_take cdv A outer s H E C J) p__law_bad_fields
theorem i__law_fields {P0 : Program} {w : World} {K : PySem.W.Frag} {mg : Str → Option Value} {base : Heap} {h : Heap} {es : List DictEntry} {fI : Addr} (Y : Hw.Sy 9 nms sns K es) (X : K.In h) (G : h.Ns mainGlobals mg) (GL : Glob mg) (ER : ErrsOk K mg ers errSub fI) (f__law_take : FnI P0 w K mg base 2 "_law_take" ["store", "many"] S._law_take) : FnI P0 w K mg base 3 "_law_fields" ["store", "low", "high"] S._law_fields := by
  obtain ⟨fd, hm, Fd⟩ := Y.fn X G 57 (x := "_law_fields") (nm := "_law_fields") (q := "_law_fields") (ps := defArgs s__law_fields) (body := defBody s__law_fields) (sc := defScope s__law_fields) rfl rfl
  exact fnI_mk (nb := 1) Fd hm (Fd.bindsN fun _ _ _ _ _ _ us hl => match us, hl with | [_, _, _], _ => rfl) ⟨rfl, rfl, rfl, by decide +kernel, rfl, by decide +kernel, by decide +kernel⟩ (fun cdv A outer s H E C J => w__law_fields GL ER f__law_take cdv A outer s H E C J) p__law_fields
theorem i__law_of_signs {P0 : Program} {w : World} {K : PySem.W.Frag} {mg : Str → Option Value} {base : Heap} {h : Heap} {es : List DictEntry} {fI : Addr} (Y : Hw.Sy 9 nms sns K es) (X : K.In h) (G : h.Ns mainGlobals mg) (GL : Glob mg) (ER : ErrsOk K mg ers errSub fI) : FnI P0 w K mg base 1 "_law_of_signs" ["fields", "signs"] S._law_of_signs := by
  obtain ⟨fd, hm, Fd⟩ := Y.fn X G 76 (x := "_law_of_signs") (nm := "_law_of_signs") (q := "_law_of_signs") (ps := defArgs s__law_of_signs) (body := defBody s__law_of_signs) (sc := defScope s__law_of_signs) rfl rfl
  exact fnI_mk (nb := 0) Fd hm (Fd.bindsN fun _ _ _ _ _ _ us hl => match us, hl with | [_, _], _ => rfl) ⟨rfl, rfl, rfl, by decide +kernel, rfl, by decide +kernel, by decide +kernel⟩ (fun cdv A outer s H E C J => w__law_of_signs GL ER cdv A outer s H E C J) p__law_of_signs
theorem i__law_thirds {P0 : Program} {w : World} {K : PySem.W.Frag} {mg : Str → Option Value} {base : Heap} {h : Heap} {es : List DictEntry} {fI : Addr} (Y : Hw.Sy 9 nms sns K es) (X : K.In h) (G : h.Ns mainGlobals mg) (GL : Glob mg) (ER : ErrsOk K mg ers errSub fI) (f__law_case : FnI P0 w K mg base 4 "_law_case" ["store", "fields"] S._law_case) (f__law_of_signs : FnI P0 w K mg base 1 "_law_of_signs" ["fields", "signs"] S._law_of_signs) (f__law_pick : FnI P0 w K mg base 3 "_law_pick" ["store", "things"] S._law_pick) (f__law_take : FnI P0 w K mg base 2 "_law_take" ["store", "many"] S._law_take) : FnI P0 w K mg base 5 "_law_thirds" ["store", "fields", "signs"] S._law_thirds := by
  obtain ⟨fd, hm, Fd⟩ := Y.fn X G 78 (x := "_law_thirds") (nm := "_law_thirds") (q := "_law_thirds") (ps := defArgs s__law_thirds) (body := defBody s__law_thirds) (sc := defScope s__law_thirds) rfl rfl
  exact fnI_mk (nb := 1) Fd hm (Fd.bindsN fun _ _ _ _ _ _ us hl => match us, hl with | [_, _, _], _ => rfl) ⟨rfl, rfl, rfl, by decide +kernel, rfl, by decide +kernel, by decide +kernel⟩ (fun cdv A outer s H E C J => w__law_thirds GL ER f__law_case f__law_of_signs f__law_pick f__law_take cdv A outer s H E C J) p__law_thirds
theorem i__law_world_drawn {P0 : Program} {w : World} {K : PySem.W.Frag} {mg : Str → Option Value} {base : Heap} {h : Heap} {es : List DictEntry} {fI : Addr} (Y : Hw.Sy 9 nms sns K es) (X : K.In h) (G : h.Ns mainGlobals mg) (GL : Glob mg) (ER : ErrsOk K mg ers errSub fI) (f__law_any_case : FnI P0 w K mg base 7 "_law_any_case" ["store", "fields"] S._law_any_case) (f__law_bad_fields : FnI P0 w K mg base 6 "_law_bad_fields" ["store"] S._law_bad_fields) (f__law_case : FnI P0 w K mg base 4 "_law_case" ["store", "fields"] S._law_case) (f__law_fields : FnI P0 w K mg base 3 "_law_fields" ["store", "low", "high"] S._law_fields) (f__law_signs : FnI P0 w K mg base 3 "_law_signs" ["fields", "one", "two"] S._law_signs) (f__law_take : FnI P0 w K mg base 2 "_law_take" ["store", "many"] S._law_take) (f__law_thirds : FnI P0 w K mg base 5 "_law_thirds" ["store", "fields", "signs"] S._law_thirds) : FnI P0 w K mg base 8 "_law_world_drawn" ["store"] S._law_world_drawn := by
  obtain ⟨fd, hm, Fd⟩ := Y.fn X G 80 (x := "_law_world_drawn") (nm := "_law_world_drawn") (q := "_law_world_drawn") (ps := defArgs s__law_world_drawn) (body := defBody s__law_world_drawn) (sc := defScope s__law_world_drawn) rfl rfl
  exact fnI_mk (nb := 1) Fd hm (Fd.bindsN fun _ _ _ _ _ _ us hl => match us, hl with | [_], _ => rfl) ⟨rfl, rfl, rfl, by decide +kernel, rfl, by decide +kernel, by decide +kernel⟩ (fun cdv A outer s H E C J => w__law_world_drawn GL ER f__law_any_case f__law_bad_fields f__law_case f__law_fields f__law_signs f__law_take f__law_thirds cdv A outer s H E C J) p__law_world_drawn
theorem all_of {P0 : Program} {w : World} {K : PySem.W.Frag} {mg : Str → Option Value} {base : Heap} {h : Heap} {es : List DictEntry} {fI : Addr} {f : Addr} {fd : FuncData} (Y : Hw.Sy 9 nms sns K es) (X : K.In h) (G : h.Ns mainGlobals mg) (GL : Glob mg) (ER : ErrsOk K mg ers errSub fI) (Fd : FunD K "law" "law" (defArgs s_law) (defBody s_law) (defScope s_law) [] [] f fd) : FnOk P0 w K mg base (L2.CX P0 w) 9 f fd ["script"] (lSp K S.law) := by
  have f__law_case_key : FnI P0 w K mg base 1 "_law_case_key" ["case"] S._law_case_key := i__law_case_key Y X G GL ER
  have f__law_sign_in : FnI P0 w K mg base 1 "_law_sign_in" ["case", "field"] S._law_sign_in := i__law_sign_in Y X G GL ER
  have f__law_fits : FnI P0 w K mg base 2 "_law_fits" ["fields", "signs", "case"] S._law_fits := i__law_fits Y X G GL ER f__law_sign_in
  have f__law_common : FnI P0 w K mg base 1 "_law_common" ["one", "two"] S._law_common := i__law_common Y X G GL ER
  have f__law_is_lot : FnI P0 w K mg base 1 "_law_is_lot" ["fields", "thing"] S._law_is_lot := i__law_is_lot Y X G GL ER
  have f__law_is_case : FnI P0 w K mg base 2 "_law_is_case" ["fields", "thing"] S._law_is_case := i__law_is_case Y X G GL ER f__law_common f__law_is_lot
  have f__law_all_met : FnI P0 w K mg base 3 "_law_all_met" ["fields", "signs", "answer"] S._law_all_met := i__law_all_met Y X G GL ER f__law_case_key f__law_fits f__law_is_case
  have f__law_cases : FnI P0 w K mg base 4 "_law_cases" ["fields"] S._law_cases := i__law_cases Y X G GL ER f__law_case_key
  have f_lot_on : FnI P0 w K mg base 1 "lot_on" ["fields", "text"] S.lot_on := i_lot_on Y X G GL ER
  have f_shared : FnI P0 w K mg base 1 "shared" ["one", "two"] S.shared := i_shared Y X G GL ER
  have f_case_on : FnI P0 w K mg base 2 "case_on" ["fields", "case"] S.case_on := i_case_on Y X G GL ER f_lot_on f_shared
  have f_check_fields : FnI P0 w K mg base 2 "check_fields" ["fields"] S.check_fields := i_check_fields Y X G GL ER f_lot_on
  have f_check_case : FnI P0 w K mg base 3 "check_case" ["fields", "case"] S.check_case := i_check_case Y X G GL ER f_case_on f_check_fields
  have f_joined : FnI P0 w K mg base 1 "joined" ["one", "two"] S.joined := i_joined Y X G GL ER
  have f_unlike_fields : FnI P0 w K mg base 2 "unlike_fields" ["one", "two"] S.unlike_fields := i_unlike_fields Y X G GL ER f_joined f_shared
  have f_without : FnI P0 w K mg base 1 "without" ["one", "two"] S.without := i_without Y X G GL ER
  have f_settled : FnI P0 w K mg base 3 "settled" ["one", "two"] S.settled := i_settled Y X G GL ER f_joined f_unlike_fields f_without
  have f_is_meeting : FnI P0 w K mg base 4 "is_meeting" ["fields", "one", "two", "third"] S.is_meeting := i_is_meeting Y X G GL ER f_check_case f_settled f_unlike_fields f_without
  have f_lot_place : FnI P0 w K mg base 1 "lot_place" ["lot"] S.lot_place := i_lot_place Y X G GL ER
  have f_case_place : FnI P0 w K mg base 2 "case_place" ["case"] S.case_place := i_case_place Y X G GL ER f_lot_place
  have f_parts_of : FnI P0 w K mg base 4 "parts_of" ["lot"] S.parts_of := i_parts_of Y X G GL ER f_lot_place
  have f_pairs_in : FnI P0 w K mg base 5 "pairs_in" ["lot"] S.pairs_in := i_pairs_in Y X G GL ER f_parts_of f_without
  have f_meetings : FnI P0 w K mg base 6 "meetings" ["fields", "one", "two"] S.meetings := i_meetings Y X G GL ER f_case_place f_check_case f_joined f_pairs_in f_settled f_unlike_fields
  have f__law_asked : FnI P0 w K mg base 7 "_law_asked" ["which", "fields", "one", "two", "third"] S._law_asked := i__law_asked Y X G GL ER f_is_meeting f_meetings
  have f__law_rising : FnI P0 w K mg base 1 "_law_rising" ["fields", "text"] S._law_rising := i__law_rising Y X G GL ER
  have f__law_right_case : FnI P0 w K mg base 2 "_law_right_case" ["fields", "case"] S._law_right_case := i__law_right_case Y X G GL ER f__law_rising
  have f__law_refusal : FnI P0 w K mg base 3 "_law_refusal" ["which", "fields", "one", "two", "third"] S._law_refusal := i__law_refusal Y X G GL ER f__law_right_case f__law_rising
  have f__law_same_plain : FnI P0 w K mg base 1 "_law_same_plain" ["x", "y"] S._law_same_plain := i__law_same_plain Y X G GL ER
  have f__law_same : FnI P0 w K mg base 2 "_law_same" ["answer", "due"] S._law_same := i__law_same Y X G GL ER f__law_same_plain
  have f__law_sign : FnI P0 w K mg base 1 "_law_sign" ["x", "y"] S._law_sign := i__law_sign Y X G GL ER
  have f__law_shown : FnI P0 w K mg base 2 "_law_shown" ["sign", "other"] S._law_shown := i__law_shown Y X G GL ER f__law_sign
  have f__law_signs : FnI P0 w K mg base 3 "_law_signs" ["fields", "one", "two"] S._law_signs := i__law_signs Y X G GL ER f__law_shown f__law_sign_in
  have f__law_round : FnI P0 w K mg base 8 "_law_round" ["which", "fields", "one", "two", "third"] S._law_round := i__law_round Y X G GL ER f__law_all_met f__law_asked f__law_fits f__law_refusal f__law_same f__law_signs
  have f__law_mix : FnI P0 w K mg base 1 "_law_mix" ["number"] S._law_mix := i__law_mix Y X G GL ER
  have f__law_store : FnI P0 w K mg base 2 "_law_store" ["script"] S._law_store := i__law_store Y X G GL ER f__law_mix
  have f__law_less : FnI P0 w K mg base 1 "_law_less" ["one", "two"] S._law_less := i__law_less Y X G GL ER
  have f__law_take : FnI P0 w K mg base 2 "_law_take" ["store", "many"] S._law_take := i__law_take Y X G GL ER f__law_mix
  have f__law_pick : FnI P0 w K mg base 3 "_law_pick" ["store", "things"] S._law_pick := i__law_pick Y X G GL ER f__law_take
  have f__law_lot : FnI P0 w K mg base 4 "_law_lot" ["store", "fields"] S._law_lot := i__law_lot Y X G GL ER f__law_pick f__law_take
  have f__law_bad_lot : FnI P0 w K mg base 5 "_law_bad_lot" ["store", "fields"] S._law_bad_lot := i__law_bad_lot Y X G GL ER f__law_less f__law_lot f__law_pick f__law_take
  have f__law_shuffled : FnI P0 w K mg base 3 "_law_shuffled" ["store", "things"] S._law_shuffled := i__law_shuffled Y X G GL ER f__law_take
  have f__law_case : FnI P0 w K mg base 4 "_law_case" ["store", "fields"] S._law_case := i__law_case Y X G GL ER f__law_shuffled f__law_take
  have f__law_union : FnI P0 w K mg base 1 "_law_union" ["one", "two"] S._law_union := i__law_union Y X G GL ER
  have f__law_bad_case : FnI P0 w K mg base 6 "_law_bad_case" ["store", "fields"] S._law_bad_case := i__law_bad_case Y X G GL ER f__law_bad_lot f__law_case f__law_pick f__law_take f__law_union
  have f__law_any_case : FnI P0 w K mg base 7 "_law_any_case" ["store", "fields"] S._law_any_case := i__law_any_case Y X G GL ER f__law_bad_case f__law_case f__law_take
  have f__law_bad_fields : FnI P0 w K mg base 6 "_law_bad_fields" ["store"] S._law_bad_fields := i__law_bad_fields Y X G GL ER f__law_bad_lot f__law_take
  have f__law_fields : FnI P0 w K mg base 3 "_law_fields" ["store", "low", "high"] S._law_fields := i__law_fields Y X G GL ER f__law_take
  have f__law_of_signs : FnI P0 w K mg base 1 "_law_of_signs" ["fields", "signs"] S._law_of_signs := i__law_of_signs Y X G GL ER
  have f__law_thirds : FnI P0 w K mg base 5 "_law_thirds" ["store", "fields", "signs"] S._law_thirds := i__law_thirds Y X G GL ER f__law_case f__law_of_signs f__law_pick f__law_take
  have f__law_world_drawn : FnI P0 w K mg base 8 "_law_world_drawn" ["store"] S._law_world_drawn := i__law_world_drawn Y X G GL ER f__law_any_case f__law_bad_fields f__law_case f__law_fields f__law_signs f__law_take f__law_thirds
  exact fn_okD (nb := 0) Fd ⟨rfl, rfl, rfl, by decide +kernel, rfl, by decide +kernel, by decide +kernel⟩ (fun cdv A outer s H E C J => w_law GL ER f__law_all_met f__law_cases f__law_round f__law_signs f__law_store f__law_world_drawn f_meetings cdv A outer s H E C J) p_law
theorem glob_ok {K : PySem.W.Frag} {mg : Str → Option Value} {h : Heap} {es : List DictEntry} (Y : Hw.Sy 9 nms sns K es) (X : K.In h) (G : h.Ns mainGlobals mg) : Glob mg where
  FIELDS := Y.str X G 36 rfl rfl
  ValueError := Y.free X G (by decide +kernel)
  bool := Y.free X G (by decide +kernel)
  dict := Y.free X G (by decide +kernel)
  enumerate := Y.free X G (by decide +kernel)
  int := Y.free X G (by decide +kernel)
  isinstance := Y.free X G (by decide +kernel)
  len := Y.free X G (by decide +kernel)
  list := Y.free X G (by decide +kernel)
  range := Y.free X G (by decide +kernel)
  sorted := Y.free X G (by decide +kernel)
  str := Y.free X G (by decide +kernel)
  tuple := Y.free X G (by decide +kernel)
def subs : List Str := ((["BadLot", "BadNames", "BadCase", "PlainCase", "BadLevel", "BadScale", "BadRow", "BadTag", "BadText", "BadPaper", "BadOrder", "BadPairs"] : List PySem.Str) ++ (["BadCount", "BadBox", "BadLine", "WrongFields", "NoRow", "NoName", "NameTaken", "NotLearnt", "NothingThere", "EmptyList", "TooMany", "TooDeep"] : List PySem.Str) ++ (["NotFrame", "NotClosure", "NotClosed", "NotSteady", "NotWord", "NotStrikable", "NotWithin", "RoundRule", "Disagrees", "BothSides", "Against"] : List PySem.Str))
theorem subs_nm : (nms.drop 10).take 35 = subs := by kernel_rfl
theorem subs_sn : (sns.drop 1).take 35 = subs.map fun c => Hw.clsLit c ((some "OutweighedError", .none) :: Hw.veS) none := by kernel_rfl
theorem errs_ok {K : PySem.W.Frag} {mg : Str → Option Value} {h : Heap} {es : List DictEntry} (Y : Hw.Sy 9 nms sns K es) (X : K.In h) (G : h.Ns mainGlobals mg) : ∃ fI, ErrsOk K mg ers errSub fI := by
  have hsub : ∀ c ∈ subs, ∃ i : Nat, nms[9 + i]? = some c ∧ sns[i]? = some (Hw.clsLit c ((some "OutweighedError", .none) :: Hw.veS) none) := by
    intro c hc
    obtain ⟨j, hj⟩ := List.mem_iff_getElem?.mp hc
    have hl : j < 35 := by
      obtain ⟨hlt, _⟩ := List.getElem?_eq_some_iff.mp hj
      exact hlt
    refine ⟨1 + j, ?_, ?_⟩
    · have e := hj
      rw [← subs_nm, List.getElem?_take, if_pos hl, List.getElem?_drop] at e
      rw [← e]
      congr 1
      omega
    · have e : (subs.map fun c => Hw.clsLit c ((some "OutweighedError", .none) :: Hw.veS) none)[j]? = some (Hw.clsLit c ((some "OutweighedError", .none) :: Hw.veS) none) := by
        rw [List.getElem?_map, hj]
        rfl
      rw [← subs_sn, List.getElem?_take, if_pos hl, List.getElem?_drop] at e
      exact e
  obtain ⟨fI, N0, E⟩ := Y.errs (subs := subs) (ib := 0) rfl rfl hsub (by decide +kernel)
  exact ⟨fI, E.ok X G⟩
def names0 : List PySem.Str := ["OutweighedError", "BadLot", "BadNames", "BadCase", "PlainCase", "BadLevel", "BadScale", "BadRow", "BadTag", "BadText", "BadPaper", "BadOrder", "BadPairs", "BadCount", "BadBox", "BadLine", "WrongFields", "NoRow", "NoName", "NameTaken"]
def names1 : List PySem.Str := ["NotLearnt", "NothingThere", "EmptyList", "TooMany", "TooDeep", "NotFrame", "NotClosure", "NotClosed", "NotSteady", "NotWord", "NotStrikable", "NotWithin", "RoundRule", "Disagrees", "BothSides", "Against", "FIELDS", "lot_on", "joined", "shared"]
def names2 : List PySem.Str := ["without", "lot_place", "parts_of", "check_fields", "case_on", "case_place", "pairs_in", "check_case", "unlike_fields", "settled", "is_meeting", "meetings", "_law_mix", "_law_store", "_law_take", "_law_pick", "_law_shuffled", "_law_fields", "_law_lot", "_law_bad_lot"]
def names3 : List PySem.Str := ["_law_bad_fields", "_law_common", "_law_less", "_law_union", "_law_case_key", "_law_cases", "_law_case", "_law_bad_case", "_law_same", "_law_same_plain", "_law_is_lot", "_law_is_case", "_law_sign", "_law_shown", "_law_sign_in", "_law_signs", "_law_of_signs", "_law_fits", "_law_thirds", "_law_any_case"]
def names4 : List PySem.Str := ["_law_world_drawn", "_law_rising", "_law_right_case", "_law_all_met", "_law_asked", "_law_refusal", "_law_round"]
def names : List PySem.Str := names0 ++ names1 ++ names2 ++ names3 ++ names4
theorem run1 (w : World) : HandSHeadRun.RunEq R (PySem.W.view R.prog [91]) PySem.W.Hook.none (fun _ => ()) 20000 names w := by
  intro os
  kernel_rfl
theorem run (w : World) : HandSHeadRun.RunEq R (PySem.W.view R.prog [91]) (Hw.hook 9 lit) (fun s => Hw.obsG 9 (HandSHeadRun.getT s)) 20000 names w := Hw.run_two (run1 w) (run2 w)
def CXe (P : Program) : CXT := fun outer H s E u s' => ∃ w, L2.CX P w outer H s E u s'
theorem to_e {P0 : Program} {w : World} {K : PySem.W.Frag} {mg : Str → Option Value} {base : Heap} {k : Nat} {f : Addr} {fd : FuncData} {ps : List Str} {sp : Sp} (F : FnOk P0 w K mg base (L2.CX P0 w) k f fd ps sp) : FnOk P0 w K mg base (CXe P0) k f fd ps sp :=
  ⟨F.len, fun A outer s H args us vs Q E hr en hb hv h => codeAny_mono (F.run A outer s H args us vs Q E hr en hb hv h) fun r s' z => by
    match r, z with
    | .ok (.ret u), z => exact z
    | .error e, z => exact ⟨w, z⟩⟩
theorem script_vals {K : PySem.W.Frag} {F : Addr → Prop} {H : Hp} : ∀ ns : List Int, RepL K F H (ns.map V.int) (ns.map D.int)
  | [] => .nil
  | n :: ns => .cons (.int n) (script_vals ns)
theorem law_sp {K : PySem.W.Frag} (H : Hp) (a : Addr) (ns : List Int) (hl : ns.length ≤ 63) (hS : SqL K H a (ns.map V.int)) : lSp K S.law [V.ref a] H (fun v _ => v = V.bl true) (fun _ _ _ => False) := by
  have fin : ∀ (F : Addr → Prop) (d : D), (∀ b, F b → ∃ o, H b = some o) → Rep K F H (.ref a) d → (d = .lst (ns.map .int) ∨ d = .arr (ns.map .int)) → lSp K S.law [V.ref a] H (fun v _ => v = V.bl true) (fun _ _ _ => False) := by
    intro F d hF hr hd
    refine ⟨[], [.ref a], [], [d], F, fun o _ => o = .ok (.frz (.bl true)), rfl, .cons hr .nil, ⟨rfl, fun i b c z => by simp at z⟩, List.nodup_nil, hF, ?_, fun r cs' p v H' F' _ _ rs => ?_, fun c x cs' p => by cases p⟩
    · refine ⟨ns, rfl, ?_, hl, rfl⟩
      rcases hd with rfl | rfl
      · exact .inl rfl
      · exact .inr rfl
    · cases p
      have rs : Rep K F' H' v (.bl true) := rs
      cases rs
      rfl
  rcases hS with hS | hS
  · rcases hS with hS | ⟨o, hS⟩
    · exact fin (fun b => b = a) _ (fun b e => by subst e; exact ⟨_, hS⟩) (.lst rfl hS (script_vals ns)) (.inl rfl)
    · exact fin (fun _ => False) _ (fun b e => e.elim) (.arr (.inl ⟨o, hS⟩) (script_vals ns)) (.inr rfl)
  · exact fin (fun _ => False) _ (fun b e => e.elim) (.arr (.inr hS) (script_vals ns)) (.inr rfl)
theorem facts {w : World} {h : Heap} {mg : Str → Option Value} {f : Addr} {P0 : Program} (Y : (Hw.hook 9 lit).says w h) (G : h.Ns mainGlobals mg) (hfa : mg ("law" : Str) = some (.ref f)) :
    ∃ (K : PySem.W.Frag) (fd : FuncData), K.In h ∧ (∀ (s : Shared) (v : Value), BindsTo s fd ⟨[v], []⟩ [("script", v)]) ∧ ∀ base : Heap, K.In base → base.Ns mainGlobals mg → FnOk P0 w K mg base (CXe P0) 9 f fd ["script"] (lSp K S.law) := by
  obtain ⟨K, es, X, Y⟩ := Hw.sy_of Y (by decide +kernel)
  obtain ⟨fI, ER⟩ := errs_ok Y X G
  have GL := glob_ok Y X G
  obtain ⟨fd, hm, Fd⟩ := Y.fn X G 87 (x := "law") (nm := "law") (q := "law") (ps := defArgs s_law) (body := defBody s_law) (sc := defScope s_law) rfl rfl
  have e := hfa.symm.trans hm
  cases e
  have b := FunD.bindsA (ps := ["script"]) Fd fun _ _ _ _ _ _ us hl => match us, hl with | [_], _ => rfl
  exact ⟨K, fd, X, fun s v => b s [v] rfl, fun base _ _ => to_e (all_of Y X G GL ER Fd)⟩
end K01
open PySem PySem.W PySem.Calls PyProof.Rows
theorem PySem.Challenge.cw_outweighed_k01_meetings_of_cases_holds : PySem.Challenge.rw_outweighed_k01_meetings_of_cases.Holds := by
  w_on; o_law
  refine HandSHeadRun.head_any (r := OpenLaw.row PySem.Challenge.rw_outweighed_k01_meetings_of_cases) (q := view (OpenLaw.row PySem.Challenge.rw_outweighed_k01_meetings_of_cases).prog [91]) (H := Hw.hook 9 K01.lit) (ob := fun s => Hw.obsG 9 (HandSHeadRun.getT s)) (M := 20000) (loose := K01.names) (d := HandSHeadRun.topDef (OpenLaw.row PySem.Challenge.rw_outweighed_k01_meetings_of_cases).prog 91) (kwd := []) Hw.obs_eq
    (by kernel_rfl) (fun s => by kernel_rfl) K01.run (by kernel_rfl) (by kernel_rfl) (by kernel_rfl) (by rfl) (by first | assumption | decide +kernel) (by decide +kernel) ⟨rfl, rfl, rfl, rfl, rfl, by decide +kernel⟩ ?hw ?hc
  case hw => w_witness2
  case hc =>
    refine L2.walk_ofE (l := PySem.Challenge.rw_outweighed_k01_meetings_of_cases) (n := 63) (k := 9) (x := "script") (CX := K01.CXe PySem.Challenge.rw_outweighed_k01_meetings_of_cases.prog) rfl (by decide) (by kernel_rfl) ⟨rfl, by decide, by decide⟩ ?F (fun _ _ _ _ z => by obtain ⟨_, _, _, _, _, _, _, _, _, _, _, _, _, z⟩ := z; exact z)
    intro w mg fa h Y G hmg0
    have hmg : mg ("law" : PySem.Str) = some (.ref fa) := by
      have e : (HandSHeadRun.topDef (OpenLaw.row PySem.Challenge.rw_outweighed_k01_meetings_of_cases).prog 91).name = ("law" : PySem.Str) := by kernel_rfl
      rw [← e]
      exact hmg0
    obtain ⟨K, fd, KX, hb, hF⟩ := K01.facts (P0 := PySem.Challenge.rw_outweighed_k01_meetings_of_cases.prog) Y G hmg
    exact ⟨K, fd, Ow.lSp K K01.S.law, KX, hb, fun H a ns hl _ hS => K01.law_sp H a ns hl hS, hF⟩

