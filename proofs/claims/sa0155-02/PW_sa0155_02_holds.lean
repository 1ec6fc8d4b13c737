import PyProof.Rows.All
import Wide.All
import OpenK.AllK
import Wide.FinOn
import PySem.Challenge.RW_sa0155_02
open PySem PySem.W PyProof.Rows
set_option Elab.async false
set_option autoImplicit false
set_option linter.all false
set_option genSizeOf false
set_option genInjectivity false
set_option maxRecDepth 100000
set_option maxHeartbeats 8000000

section
namespace Mn
theorem ad {a b c d : Nat} (h : a ≤ b) (g : c ≤ d) : a + c ≤ b + d := Nat.add_le_add h g
theorem lq {a b : Nat} (h : a = b) : a ≤ b := h ▸ Nat.le_refl a
theorem lin {x y A B : Nat} (h : x ≤ y) (e : A + y ≤ B + x := by simp +arith only) : A ≤ B := by omega
inductive D where
  | non | boo (b : Bool) | int (i : Int) | str (s : List Nat) | tup (l : List D) | lst (l : List D)
deriving Inhabited
abbrev Fz := Addr → Option Obj
noncomputable def Fz.Sub (F F' : Fz) : Prop := ∀ a o, F a = some o → F' a = some o
theorem Fz.Sub.refl (F : Fz) : F.Sub F := fun _ _ e => e
theorem Fz.Sub.trans {F F' F'' : Fz} (x : F.Sub F') (y : F'.Sub F'') : F.Sub F'' := fun a o e => y a o (x a o e)
mutual
inductive DR (F : Fz) : D → Value → Prop
  | non : DR F .non .none
  | boo (b : Bool) : DR F (.boo b) (.bool b)
  | int (i : Int) (t : Tok) : DR F (.int i) (.int i t)
  | str (s : List Nat) (t : Tok) : DR F (.str s) (.str ⟨s.toArray⟩ t)
  | tup {l : List D} {a : Addr} {o : Obj} {vs : List Value} {n : Nat} : F a = some o → o.cls = .type "tuple" → o.data = .seq vs.toArray n → DRs F l vs → DR F (.tup l) (.ref a)
  | lst {l : List D} {a : Addr} {o : Obj} {vs : List Value} {n : Nat} : F a = some o → o.cls = .type "list" → o.data = .seq vs.toArray n → DRs F l vs → DR F (.lst l) (.ref a)
inductive DRs (F : Fz) : List D → List Value → Prop
  | nil : DRs F [] []
  | cons {d : D} {v : Value} {l : List D} {vs : List Value} : DR F d v → DRs F l vs → DRs F (d :: l) (v :: vs)
end
theorem DR.mono {F F' : Fz} (S : F.Sub F') {d : D} {v : Value} (h : DR F d v) : DR F' d v :=
  DR.rec (motive_1 := fun d v _ => DR F' d v) (motive_2 := fun l vs _ => DRs F' l vs) .non (fun b => .boo b) (fun i t => .int i t) (fun s t => .str s t) (fun h c e _ r => .tup (S _ _ h) c e r) (fun h c e _ r => .lst (S _ _ h) c e r) .nil (fun _ _ a b => .cons a b) h
theorem DRs.mono {F F' : Fz} (S : F.Sub F') {l : List D} : ∀ {vs : List Value}, DRs F l vs → DRs F' l vs := by
  induction l with
  | nil => intro vs h; cases h; exact .nil
  | cons x l ih => intro vs h; cases h with | cons a b => exact .cons (DR.mono S a) (ih b)
theorem DRs.length {F : Fz} {l : List D} : ∀ {vs : List Value}, DRs F l vs → l.length = vs.length := by
  induction l with
  | nil => intro vs h; cases h; rfl
  | cons x l ih => intro vs h; cases h with | cons a b => exact congrArg Nat.succ (ih b)
theorem DRs.append {F : Fz} {l l' : List D} {vs' : List Value} : ∀ {vs : List Value}, DRs F l vs → DRs F l' vs' → DRs F (l ++ l') (vs ++ vs') := by
  induction l with
  | nil => intro vs h k; cases h; exact k
  | cons x l ih => intro vs h k; cases h with | cons a b => exact .cons a (ih b k)
theorem DRs.get {F : Fz} {l : List D} : ∀ {vs : List Value}, DRs F l vs → ∀ (i : Nat) (d : D), l[i]? = some d → ∃ v, vs[i]? = some v ∧ DR F d v := by
  induction l with
  | nil => intro vs _ i d e; exact nomatch e
  | cons x l ih =>
    intro vs h i d e
    cases h with
    | cons a b =>
      cases i with
      | zero => cases e; exact ⟨_, rfl, a⟩
      | succ i => exact ih b i d e
theorem DRs.get' {F : Fz} {l : List D} : ∀ {vs : List Value}, DRs F l vs → ∀ (i : Nat) (v : Value), vs[i]? = some v → ∃ d, l[i]? = some d ∧ DR F d v := by
  induction l with
  | nil => intro vs h i d e; cases h; exact nomatch e
  | cons x l ih =>
    intro vs h i d e
    cases h with
    | cons a b =>
      cases i with
      | zero => cases e; exact ⟨_, rfl, a⟩
      | succ i => exact ih b i d e
theorem DRs.reverse {F : Fz} : ∀ {l : List D} {vs : List Value}, DRs F l vs → DRs F l.reverse vs.reverse
  | _, _, .nil => .nil
  | _, _, .cons a b => by simp only [List.reverse_cons]; exact b.reverse.append (.cons a .nil)
theorem DRs.take {F : Fz} : ∀ {l : List D} {vs : List Value} (n : Nat), DRs F l vs → DRs F (l.take n) (vs.take n)
  | _, _, 0, _ => by simp only [List.take_zero]; exact .nil
  | _, _, n + 1, .nil => by simp only [List.take_nil]; exact .nil
  | _, _, n + 1, .cons a b => by simp only [List.take_succ_cons]; exact .cons a (b.take n)
theorem DRs.drop {F : Fz} : ∀ {l : List D} {vs : List Value} (n : Nat), DRs F l vs → DRs F (l.drop n) (vs.drop n)
  | _, _, 0, h => h
  | _, _, n + 1, .nil => by simp only [List.drop_nil]; exact .nil
  | _, _, n + 1, .cons a b => by simp only [List.drop_succ_cons]; exact b.drop n
inductive AV where
  | d (x : D) | ob (n : Nat) | own (l : List D)
deriving Inhabited
abbrev SA := Addr × Addr
noncomputable def sAddrs (α : List SA) : List Addr := α.flatMap fun p => [p.1, p.2]
theorem mem_sAddrs {α : List SA} {a : Addr} : a ∈ sAddrs α ↔ ∃ p ∈ α, a = p.1 ∨ a = p.2 := by
  unfold sAddrs
  simp [List.mem_flatMap]
theorem sAddrs_append (α β : List SA) : sAddrs (α ++ β) = sAddrs α ++ sAddrs β := by simp [sAddrs]
noncomputable def VR (F : Fz) (α : List SA) : AV → Value → Prop
  | .d x, v => DR F x v
  | .ob n, v => ∃ p, α[n]? = some p ∧ v = .ref p.1
  | .own _, _ => False
theorem get_prefix {α β : List SA} {n : Nat} {p : SA} (h : α[n]? = some p) : (α ++ β)[n]? = some p := by
  rw [List.getElem?_append_left (List.getElem?_eq_some_iff.mp h).1]; exact h
theorem VR.mono {F F' : Fz} {α β : List SA} (S : F.Sub F') : ∀ {av : AV} {v : Value}, VR F α av v → VR F' (α ++ β) av v
  | .d _, _, h => DR.mono S h
  | .ob _, _, ⟨p, h, e⟩ => ⟨p, get_prefix h, e⟩
  | .own _, _, h => h.elim
inductive VRs (F : Fz) (α : List SA) : List AV → List Value → Prop
  | nil : VRs F α [] []
  | cons {d : AV} {v : Value} {l : List AV} {vs : List Value} : VR F α d v → VRs F α l vs → VRs F α (d :: l) (v :: vs)
theorem VRs.mono {F F' : Fz} {α β : List SA} (S : F.Sub F') : ∀ {l : List AV} {vs : List Value}, VRs F α l vs → VRs F' (α ++ β) l vs := by
  intro l vs h
  induction h with
  | nil => exact .nil
  | cons a _ ih => exact .cons (VR.mono S a) ih
theorem VRs.length {F : Fz} {α : List SA} : ∀ {l : List AV} {vs : List Value}, VRs F α l vs → l.length = vs.length := by
  intro l vs h
  induction h with
  | nil => rfl
  | cons _ _ ih => exact congrArg Nat.succ ih
inductive AO where
  | lst (l : List D)
  | d0
  | dS (es : List (List Nat × D))
  | dI (es : List (Int × D))
  | dP (es : List (List Int × D))
  | ins (c : Nat) (fs : List (Nat × AV))
deriving Inhabited
structure FnI where
  addr : Addr
  gname : String
  qual : Str
  scope : Scope
  params : Arguments
  body : List Stmt
  ns : List String
  npar : Nat
  defs : List D
structure Pg where
  gtab : List (String × D)
  fns : List FnI
  clss : List Addr
  clsN : List String
  flds : List String
  mths : List String
  mtab : List (List (Nat × Nat))
  inits : List Nat
noncomputable def Pg.fld (P : Pg) (f : Nat) : Str := Str.ofString (P.flds.getD f "")
section
variable (P : Pg)
inductive FieldsR (F : Fz) (α : List SA) : List (Nat × AV) → List DictEntry → Prop
  | nil : FieldsR F α [] []
  | cons {f : Nat} {av : AV} {fs : List (Nat × AV)} {e : DictEntry} {es : List DictEntry} : f < P.flds.length → e.key.isStr (P.fld f) = true → VR F α av e.val → FieldsR F α fs es → FieldsR F α ((f, av) :: fs) (e :: es)
theorem FieldsR.mono {F F' : Fz} {α β : List SA} (S : F.Sub F') : ∀ {l : List (Nat × AV)} {vs : List DictEntry}, FieldsR P F α l vs → FieldsR P F' (α ++ β) l vs := by
  intro l vs h
  induction h with
  | nil => exact .nil
  | cons z a b _ ih => exact .cons z a (VR.mono S b) ih
end
noncomputable def sKey (s : List Nat) : Str := ⟨s.toArray⟩
theorem sKey_inj {a b : List Nat} (h : sKey a = sKey b) : a = b := by
  have := congrArg (fun s : Str => s.cps.toList) h
  simpa [sKey] using this
inductive KV {κ κ' : Type} (F : Fz) (f : κ → κ') : List (κ × D) → List (κ' × Value) → Prop
  | nil : KV F f [] []
  | cons {k : κ} {d : D} {v : Value} {es : List (κ × D)} {kvs : List (κ' × Value)} : DR F d v → KV F f es kvs → KV F f ((k, d) :: es) ((f k, v) :: kvs)
theorem KV.mono {κ κ' : Type} {F F' : Fz} {f : κ → κ'} (S : F.Sub F') : ∀ {es : List (κ × D)} {kvs : List (κ' × Value)}, KV F f es kvs → KV F' f es kvs := by
  intro l vs h
  induction h with
  | nil => exact .nil
  | cons a _ ih => exact .cons (DR.mono S a) ih
inductive KVH (F : Fz) : List (List Int × D) → List (List Int × Addr × Value) → Prop
  | nil : KVH F [] []
  | cons {k : List Int} {d : D} {a : Addr} {v : Value} {es : List (List Int × D)} {kvs : List (List Int × Addr × Value)} : DR F (.tup (k.map .int)) (.ref a) → DR F d v → KVH F es kvs → KVH F ((k, d) :: es) ((k, a, v) :: kvs)
theorem KVH.mono {F F' : Fz} (S : F.Sub F') : ∀ {es : List (List Int × D)} {kvs : List (List Int × Addr × Value)}, KVH F es kvs → KVH F' es kvs := by
  intro l vs h
  induction h with
  | nil => exact .nil
  | cons x a _ ih => exact .cons (DR.mono S x) (DR.mono S a) ih
structure Wd where
  prog : Program
  w : World
  B : Heap
  K : Frag
  mg : Str → Option Value
  mb : Str → Option Value
  P : Pg
  lim : Nat
variable (Γ : Wd)
abbrev iKind := intKind Γ.prog Γ.w
abbrev tKind := tupleKind (intKind Γ.prog Γ.w)
noncomputable def listAt (h : Heap) (a : Addr) (vs : List Value) : Prop := ∃ n, h.get? a = some { cls := .type "list", data := .seq vs.toArray n }
noncomputable def AOR (F : Fz) (α : List SA) (h : Heap) (p : SA) : AO → Prop
  | .lst l => p.1 = p.2 ∧ ∃ vs, listAt h p.1 vs ∧ DRs F l vs
  | .d0 => p.1 = p.2 ∧ (p.1 == sysModules) = false ∧ ∃ n, h.get? p.1 = some { cls := .type "dict", data := .dict #[] n }
  | .dS es => p.1 = p.2 ∧ (p.1 == sysModules) = false ∧ ∃ kvs, h.DictOf (strKind Γ.prog Γ.w) p.1 kvs ∧ KV F sKey es kvs
  | .dI es => p.1 = p.2 ∧ (p.1 == sysModules) = false ∧ ∃ kvs, h.DictOf (intKind Γ.prog Γ.w) p.1 kvs ∧ KV F id es kvs
  | .dP es => p.1 = p.2 ∧ (p.1 == sysModules) = false ∧ ∃ xs, h.DictOfH (tupleKind (intKind Γ.prog Γ.w)) p.1 xs ∧ KVH F es xs
  | .ins c fs => p.1 ≠ p.2 ∧ ∃ C, Γ.P.clss[c]? = some C ∧ h.get? p.1 = some (instObj C p.2) ∧ ∃ es n, h.get? p.2 = some (dictOf es n) ∧ FieldsR Γ.P F α fs es
noncomputable def SDisj (α : List SA) : Prop := α.Pairwise fun p q => p.1 ≠ q.1 ∧ p.1 ≠ q.2 ∧ p.2 ≠ q.1 ∧ p.2 ≠ q.2
structure Inv (F : Fz) (α : List SA) (st : List AO) (h : Heap) : Prop where
  agree : ∀ a o, F a = some o → h.get? a = some o
  base : ∀ a o, Γ.B.get? a = some o → F a = some o
  len : α.length = st.length
  rep : ∀ (i : Nat) (p : SA) (ao : AO), α[i]? = some p → st[i]? = some ao → AOR Γ F α h p ao
  nof : ∀ a ∈ sAddrs α, F a = none
  low : ∀ a ∈ sAddrs α, ∃ o, h.get? a = some o
  disj : SDisj α
structure Ext (X : Addr → Prop) (F : Fz) (α : List SA) (h : Heap) (F' : Fz) (α' : List SA) (h' : Heap) : Prop where
  sub : F.Sub F'
  pre : ∃ β, α' = α ++ β ∧ ∀ p ∈ β, h.get? p.1 = none ∧ h.get? p.2 = none
  keep : ∀ a o, h.get? a = some o → a ∉ sAddrs α → ¬ X a → h'.get? a = some o ∧ F' a = F a
  stay : ∀ a o, h.get? a = some o → ∃ o', h'.get? a = some o'
abbrev NoX : Addr → Prop := fun _ => False
abbrev ExtE := Ext NoX
variable {X : Addr → Prop}
theorem Ext.refl (F : Fz) (α : List SA) (h : Heap) : Ext X F α h F α h := ⟨.refl F, ⟨[], by simp, by simp⟩, fun _ _ e _ _ => ⟨e, rfl⟩, fun _ o e => ⟨o, e⟩⟩
theorem not_mem_ext {α β : List SA} {h : Heap} {a : Addr} {o : Obj} (ha : h.get? a = some o) (hm : a ∉ sAddrs α) (hβ : ∀ p ∈ β, h.get? p.1 = none ∧ h.get? p.2 = none) : a ∉ sAddrs (α ++ β) := by
  rw [sAddrs_append, List.mem_append, not_or]
  refine ⟨hm, fun hm => ?_⟩
  obtain ⟨p, hp, e⟩ := mem_sAddrs.mp hm
  have := hβ p hp
  rcases e with rfl | rfl
  · rw [this.1] at ha; cases ha
  · rw [this.2] at ha; cases ha
theorem Ext.transX {Y : Addr → Prop} {F F' F'' : Fz} {α α' α'' : List SA} {h h' h'' : Heap} (x : Ext X F α h F' α' h') (y : Ext Y F' α' h' F'' α'' h'') (hY : ∀ a o, h.get? a = some o → Y a → X a) : Ext X F α h F'' α'' h'' := by
  obtain ⟨β, rfl, hβ⟩ := x.pre
  obtain ⟨γ, rfl, hγ⟩ := y.pre
  have none_of : ∀ a, h'.get? a = none → h.get? a = none := fun a e => by
    cases e' : h.get? a with
    | none => rfl
    | some o => obtain ⟨o', h2⟩ := x.stay a o e'; rw [e] at h2; cases h2
  refine ⟨x.sub.trans y.sub, ⟨β ++ γ, by simp, fun p hp => ?_⟩, fun a o ha hm hX => ?_, fun a o ha => ?_⟩
  · rcases List.mem_append.mp hp with hp | hp
    · exact hβ p hp
    · exact ⟨none_of _ (hγ p hp).1, none_of _ (hγ p hp).2⟩
  · obtain ⟨e1, e2⟩ := x.keep a o ha hm hX
    obtain ⟨e3, e4⟩ := y.keep a o e1 (not_mem_ext ha hm hβ) (fun hy => hX (hY a o ha hy))
    exact ⟨e3, e4.trans e2⟩
  · obtain ⟨o', h1⟩ := x.stay a o ha
    exact y.stay a o' h1
theorem Ext.trans {F F' F'' : Fz} {α α' α'' : List SA} {h h' h'' : Heap} (x : Ext X F α h F' α' h') (y : Ext X F' α' h' F'' α'' h'') : Ext X F α h F'' α'' h'' := x.transX y fun _ _ _ h => h
theorem Ext.weak {Y : Addr → Prop} {F F' : Fz} {α α' : List SA} {h h' : Heap} (x : Ext Y F α h F' α' h') (hY : ∀ a o, h.get? a = some o → Y a → X a) : Ext X F α h F' α' h' := (Ext.refl F α h).transX x hY
theorem Ext.ofE {F F' : Fz} {α α' : List SA} {h h' : Heap} (x : ExtE F α h F' α' h') : Ext X F α h F' α' h' := x.weak fun _ _ _ h => h.elim
theorem Ext.vr {F F' : Fz} {α α' : List SA} {h h' : Heap} (x : Ext X F α h F' α' h') {av : AV} {v : Value} (r : VR F α av v) : VR F' α' av v := by
  obtain ⟨β, rfl, _⟩ := x.pre
  exact r.mono x.sub
theorem Ext.vrs {F F' : Fz} {α α' : List SA} {h h' : Heap} (x : Ext X F α h F' α' h') {av : List AV} {v : List Value} (r : VRs F α av v) : VRs F' α' av v := by
  obtain ⟨β, rfl, _⟩ := x.pre
  exact r.mono x.sub
theorem AOR.mono {F F' : Fz} {α β : List SA} {h h' : Heap} {p : SA} (S : F.Sub F') (hA : ∀ a o, F' a = some o → h'.get? a = some o) (h1 : ∀ o, h.get? p.1 = some o → h'.get? p.1 = some o) (h2 : ∀ o, h.get? p.2 = some o → h'.get? p.2 = some o) :
    ∀ {ao : AO}, AOR Γ F α h p ao → AOR Γ F' (α ++ β) h' p ao := by
  intro ao r
  cases ao with
  | lst l => obtain ⟨e, vs, ⟨o, ho⟩, q⟩ := r; exact ⟨e, vs, ⟨o, h1 _ ho⟩, q.mono S⟩
  | d0 => obtain ⟨e, m, n, ho⟩ := r; exact ⟨e, m, n, h1 _ ho⟩
  | dS l => obtain ⟨e, m, kvs, ⟨o, es, ep, ho, r⟩, q⟩ := r; exact ⟨e, m, kvs, ⟨o, es, ep, h1 _ ho, r⟩, q.mono S⟩
  | dI l => obtain ⟨e, m, kvs, ⟨o, es, ep, ho, r⟩, q⟩ := r; exact ⟨e, m, kvs, ⟨o, es, ep, h1 _ ho, r⟩, q.mono S⟩
  | ins k l => obtain ⟨e, C, hc, ho, es, n, hd, r⟩ := r; exact ⟨e, C, hc, h1 _ ho, es, n, h2 _ hd, r.mono Γ.P S⟩
  | dP l =>
    obtain ⟨e, m, xs, ⟨o, es, ep, ho, a, b, c, d, f⟩, q⟩ := r
    refine ⟨e, m, xs, ⟨o, es, ep, h1 _ ho, a, b, c, ?_, f⟩, q.mono S⟩
    clear c f
    induction q with
    | nil => intro x hx; cases hx
    | @cons k dd a' v es' kvs' hk hv hr ih =>
      intro x hx
      rcases List.mem_cons.mp hx with rfl | hx
      · cases hk with
        | @tup _ _ ko vs n g1 g2 g3 g4 =>
          refine ⟨ko, vs.toArray, n, hA _ _ (S _ _ g1), g2, g3, ?_⟩
          show ItemsAre _ k vs
          clear hx g3 d ih
          induction k generalizing vs with
          | nil => cases g4; exact .nil
          | cons i k ih =>
            cases g4 with
            | cons a b =>
              cases a
              exact .cons (by simp [intKind, Value.isInt]) (ih b)
      · exact ih (fun x hx => d x (List.mem_cons_of_mem _ hx)) x hx
end Mn
end
section
namespace Mn
inductive BO where | add | sub | mod | fdiv | pow
noncomputable def BO.op : BO → Operator | .add => .Add | .sub => .Sub | .mod => .Mod | .fdiv => .FloorDiv | .pow => .Pow
inductive BI where | int | len | chr | ord | str | abs | min | tuple | rev
noncomputable def BI.val : BI → Value | .int => .type "int" | .str => .type "str" | .tuple => .type "tuple" | .rev => .type "reversed" | .len => .builtin "len" | .chr => .builtin "chr" | .ord => .builtin "ord" | .abs => .builtin "abs" | .min => .builtin "min"
noncomputable def BI.name : BI → String | .int => "int" | .len => "len" | .chr => "chr" | .ord => "ord" | .str => "str" | .abs => "abs" | .min => "min" | .tuple => "tuple" | .rev => "reversed"
inductive MB where | append | pop | reverse | get | join | split | startswith
noncomputable def MB.tp : MB → String | .append => "list" | .pop => "list" | .reverse => "list" | .get => "dict" | .join => "str" | .split => "str" | .startswith => "str"
noncomputable def MB.id : MB → String | .append => "list.append" | .pop => "list.pop" | .reverse => "list.reverse" | .get => "dict.get" | .join => "str.join" | .split => "str.split" | .startswith => "str.startswith"
noncomputable def MB.name : MB → String | .append => "append" | .pop => "pop" | .reverse => "reverse" | .get => "get" | .join => "join" | .split => "split" | .startswith => "startswith"
inductive E0 where
  | met (o : Nat) (x : String) (m : Nat) (op ap xp p : Pos)
  | cal (f : Nat) (x : String) (cs : List (Nat × Pos)) (np xp p : Pos)
noncomputable def E0.x : E0 → String
  | .met _ x .. => x
  | .cal _ x .. => x
noncomputable def E0.caps : E0 → List Nat
  | .met o .. => [o]
  | .cal _ _ cs .. => cs.map (·.1)
mutual
inductive X where
  | loc (i : Nat) (p : Pos)
  | gv (k : Nat) (p : Pos)
  | cint (n : Int) (k : Nat) (p : Pos)
  | cstr (s : String) (k : Nat) (p : Pos)
  | cnon (k : Nat) (p : Pos)
  | cboo (b : Bool) (k : Nat) (p : Pos)
  | neg (a : X) (p : Pos)
  | not (a : X) (p : Pos)
  | bin (o : BO) (a b : X) (p : Pos)
  | cmp (o : CmpOp) (a b : X) (p : Pos)
  | bool (o : BoolOp) (as : Xs) (p : Pos)
  | ite (t a b : X) (p : Pos)
  | tup (as : Xs) (k : Nat) (p : Pos)
  | lst (as : Xs) (p : Pos)
  | newl (p : Pos)
  | newls (as : Xs) (p : Pos)
  | newd (p : Pos)
  | att (a : X) (f : Nat) (p : Pos)
  | idx (a i : X) (p : Pos)
  | slcTo (a hi : X) (sp p : Pos)
  | slcFrom (a lo : X) (sp p : Pos)
  | cal (f : Nat) (as : Xs) (np p : Pos)
  | new (c : Nat) (as : Xs) (np p : Pos)
  | bi (b : BI) (as : Xs) (np p : Pos)
  | met (a : X) (m : Nat) (as : Xs) (ap p : Pos)
  | mb (a : X) (m : MB) (as : Xs) (ap p : Pos)
  | jrev (a l : X) (ap np cp p : Pos)
  | comp (e : E0) (it : X) (tp : Pos) (sc : Scope) (p : Pos)
inductive Xs where
  | nil
  | cons (x : X) (r : Xs)
end
inductive IK where | over | range (np p : Pos) | rev (np p : Pos)
inductive Tg where
  | nm (i : Nat) (p : Pos)
  | tp (is : List (Nat × Pos)) (k : Nat) (p : Pos)
mutual
inductive S where
  | asg (t : Tg) (x : X) (p : Pos)
  | asgA (a : X) (f : Nat) (x : X) (pt p : Pos)
  | asgI (a k x : X) (pt p : Pos)
  | delI (a k : X) (pt p : Pos)
  | exp (x : X) (p : Pos)
  | iff (t : X) (a b : Ss) (p : Pos)
  | whl (t : X) (b : Ss) (p : Pos)
  | for_ (t : Tg) (k : IK) (x : X) (b : Ss) (p : Pos)
  | ret (x : X) (p : Pos)
  | pas (p : Pos)
  | brk (p : Pos)
  | con (p : Pos)
  | ownN (i : Nat) (as : Xs) (pt pl p : Pos)
  | ownA (i : Nat) (x : X) (pn ap pc p : Pos)
  | frz (i : Nat)
  | bad (s : Stmt)
inductive Ss where
  | nil
  | cons (s : S) (r : Ss)
end
section
variable (P : Pg) (ns : List String)
noncomputable def toE0 : E0 → PySem.Expr
  | .met o x m op ap xp p => .Call (.Attribute (.Name (Str.ofString (ns.getD o "")) op) (Str.ofString (P.mths.getD m "")) ap) [.Name (Str.ofString x) xp] [] p
  | .cal f x cs np xp p => .Call (.Name (Str.ofString ((P.fns.map (·.gname)).getD f "")) np) (.Name (Str.ofString x) xp :: cs.map fun q => .Name (Str.ofString (ns.getD q.1 "")) q.2) [] p
noncomputable def nmE (i : Nat) (p : Pos) : PySem.Expr := .Name (Str.ofString (ns.getD i "")) p
mutual
noncomputable def toE : X → PySem.Expr
  | .loc i p => nmE ns i p
  | .gv k p => .Name (Str.ofString ((P.gtab.map (·.1)).getD k "")) p
  | .cint n k p => .Constant (.int n) k p
  | .cstr s k p => .Constant (.str (Str.ofString s)) k p
  | .cnon k p => .Constant .none k p
  | .cboo b k p => .Constant (.bool b) k p
  | .neg a p => .UnaryOp .USub (toE a) p
  | .not a p => .UnaryOp .Not (toE a) p
  | .bin o a b p => .BinOp (toE a) o.op (toE b) p
  | .cmp o a b p => .Compare (toE a) [o] [toE b] p
  | .bool o as p => .BoolOp o (toEs as) p
  | .ite t a b p => .IfExp (toE t) (toE a) (toE b) p
  | .tup as k p => .Tuple (toEs as) k p
  | .lst as p => .List (toEs as) p
  | .newl p => .List [] p
  | .newls as p => .List (toEs as) p
  | .newd p => .Dict [] [] p
  | .att a f p => .Attribute (toE a) (P.fld f) p
  | .idx a i p => .Subscript (toE a) (toE i) p
  | .slcTo a hi sp p => .Subscript (toE a) (.Slice none (some (toE hi)) none sp) p
  | .slcFrom a lo sp p => .Subscript (toE a) (.Slice (some (toE lo)) none none sp) p
  | .cal f as np p => .Call (.Name (Str.ofString ((P.fns.map (·.gname)).getD f "")) np) (toEs as) [] p
  | .new c as np p => .Call (.Name (Str.ofString (P.clsN.getD c "")) np) (toEs as) [] p
  | .bi b as np p => .Call (.Name (Str.ofString b.name) np) (toEs as) [] p
  | .met a m as ap p => .Call (.Attribute (toE a) (Str.ofString (P.mths.getD m "")) ap) (toEs as) [] p
  | .mb a m as ap p => .Call (.Attribute (toE a) (Str.ofString m.name) ap) (toEs as) [] p
  | .jrev a l ap np cp p => .Call (.Attribute (toE a) (Str.ofString "join") ap) [.Call (.Name (Str.ofString "reversed") np) [toE l] [] cp] [] p
  | .comp e it tp sc p => .ListComp (toE0 P ns e) [⟨.Name (Str.ofString e.x) tp, toE it, [], 0⟩] sc p
noncomputable def toEs : Xs → List PySem.Expr
  | .nil => []
  | .cons x r => toE x :: toEs r
end
noncomputable def toT : Tg → PySem.Expr
  | .nm i p => nmE ns i p
  | .tp is k p => .Tuple (is.map fun q => nmE ns q.1 q.2) k p
noncomputable def toIt : IK → X → PySem.Expr
  | .over, x => toE P ns x
  | .range np p, x => .Call (.Name (Str.ofString "range") np) [toE P ns x] [] p
  | .rev np p, x => .Call (.Name (Str.ofString "reversed") np) [toE P ns x] [] p
mutual
noncomputable def toS : S → List Stmt
  | .asg t x p => [.Assign [toT ns t] (toE P ns x) p]
  | .asgA a f x pt p => [.Assign [.Attribute (toE P ns a) (P.fld f) pt] (toE P ns x) p]
  | .asgI a k x pt p => [.Assign [.Subscript (toE P ns a) (toE P ns k) pt] (toE P ns x) p]
  | .delI a k pt p => [.Delete [.Subscript (toE P ns a) (toE P ns k) pt] p]
  | .exp x p => [.Expr (toE P ns x) p]
  | .iff t a b p => [.If (toE P ns t) (toSs a) (toSs b) p]
  | .whl t b p => [.While (toE P ns t) (toSs b) [] p]
  | .for_ t k x b p => [.For (toT ns t) (toIt P ns k x) (toSs b) [] p]
  | .ret x p => [.Return (some (toE P ns x)) p]
  | .pas p => [.Pass p]
  | .brk p => [.Break p]
  | .con p => [.Continue p]
  | .ownN i as pt pl p => [.Assign [nmE ns i pt] (.List (toEs P ns as) pl) p]
  | .ownA i x pn ap pc p => [.Expr (.Call (.Attribute (nmE ns i pn) (Str.ofString "append") ap) [toE P ns x] [] pc) p]
  | .frz _ => []
  | .bad s => [s]
noncomputable def toSs : Ss → List Stmt
  | .nil => []
  | .cons s r => toS s ++ toSs r
end
end
noncomputable def big : Nat := 2 ^ 24
noncomputable def codes (s : String) : List Nat := (Str.ofString s).cps.toList
inductive TrR (st : List AO) : AV → Bool → Prop
  | non : TrR st (.d .non) false
  | boo (b : Bool) : TrR st (.d (.boo b)) b
  | int (i : Int) : TrR st (.d (.int i)) (i != 0)
  | str {s : List Nat} (h : s.length ≤ big) : TrR st (.d (.str s)) (!s.isEmpty)
  | tup {l : List D} (h : l.length ≤ big) : TrR st (.d (.tup l)) (!l.isEmpty)
  | lst {l : List D} (h : l.length ≤ big) : TrR st (.d (.lst l)) (!l.isEmpty)
  | ob {n : Nat} {l : List D} (o : st[n]? = some (.lst l)) (h : l.length ≤ big) : TrR st (.ob n) (!l.isEmpty)
  | own {l : List D} (h : l.length ≤ big) : TrR st (.own l) (!l.isEmpty)
noncomputable def trW (st : List AO) (v : AV) (K : Bool → Prop) : Prop := match v with
  | .d (.boo b) => K b
  | v => ∃ b, TrR st v b ∧ K b
inductive FE : D → D → Bool → Prop
  | nn : FE .non .non true
  | bb (a b : Bool) : FE (.boo a) (.boo b) (a == b)
  | ii (a b : Int) : FE (.int a) (.int b) (a == b)
  | ss (a b : List Nat) : FE (.str a) (.str b) (a == b)
  | ni (b : Int) : FE .non (.int b) false
  | ns (b : List Nat) : FE .non (.str b) false
  | nt (b : List D) : FE .non (.tup b) false
  | in_ (a : Int) : FE (.int a) .non false
  | sn (a : List Nat) : FE (.str a) .non false
  | tn (a : List D) : FE (.tup a) .non false
  | is_ (a : Int) (b : List Nat) : FE (.int a) (.str b) false
  | si (a : List Nat) (b : Int) : FE (.str a) (.int b) false
  | it (a : Int) (b : List D) : FE (.int a) (.tup b) false
  | ti (a : List D) (b : Int) : FE (.tup a) (.int b) false
inductive LE1 : List D → List D → Bool → Prop
  | nn : LE1 [] [] true
  | nc (a : D) (l : List D) : LE1 [] (a :: l) false
  | cn (a : D) (l : List D) : LE1 (a :: l) [] false
  | cc {a b : D} {l m : List D} {x y : Bool} (h : FE a b x) (r : LE1 l m y) : LE1 (a :: l) (b :: m) (x && y)
inductive TE : D → D → Bool → Prop
  | flat {a b : D} {x : Bool} (h : FE a b x) : TE a b x
  | tup {l m : List D} {x : Bool} (h : LE1 l m x) : TE (.tup l) (.tup m) x
inductive IE (x : D) : List D → Bool → Prop
  | nil : IE x [] false
  | cons {y : D} {l : List D} {a b : Bool} (h : TE y x a) (r : IE x l b) : IE x (y :: l) (a || b)
noncomputable def isNon : D → Bool
  | .non => true
  | _ => false
inductive CD : CmpOp → D → D → Bool → Prop
  | lt (x y : Int) : CD .Lt (.int x) (.int y) (decide (x < y))
  | le (x y : Int) : CD .LtE (.int x) (.int y) (decide (x ≤ y))
  | gt (x y : Int) : CD .Gt (.int x) (.int y) (decide (y < x))
  | ge (x y : Int) : CD .GtE (.int x) (.int y) (decide (y ≤ x))
  | eq {x y : D} {b : Bool} (h : TE x y b) : CD .Eq x y b
  | ne {x y : D} {b : Bool} (h : TE x y b) : CD .NotEq x y (!b)
  | is_ (x : D) : CD .Is x .non (isNon x)
  | isN (x : D) : CD .IsNot x .non (!isNon x)
  | inT {x : D} {l : List D} {b : Bool} (h : IE x l b) : CD .In x (.tup l) b
  | inL {x : D} {l : List D} {b : Bool} (h : IE x l b) : CD .In x (.lst l) b
  | niL {x : D} {l : List D} {b : Bool} (h : IE x l b) : CD .NotIn x (.lst l) (!b)
  | inS (c : Nat) (y : List Nat) : CD .In (.str [c]) (.str y) (y.contains c)
noncomputable def aget {κ : Type} [DecidableEq κ] : List (κ × D) → κ → Option D
  | [], _ => none
  | (k, d) :: r, x => if k = x then some d else aget r x
noncomputable def aput {κ : Type} [DecidableEq κ] : List (κ × D) → κ → D → List (κ × D)
  | [], x, d => [(x, d)]
  | (k, e) :: r, x, d => if k = x then (k, d) :: r else (k, e) :: aput r x d
noncomputable def adel {κ : Type} [DecidableEq κ] (l : List (κ × D)) (x : κ) : List (κ × D) := l.filter fun kv => decide (kv.1 ≠ x)
inductive DG : AO → D → Option D → Prop
  | s0 (k : List Nat) : DG .d0 (.str k) none
  | i0 (k : Int) : DG .d0 (.int k) none
  | t0 (k : List Int) : DG .d0 (.tup (k.map .int)) none
  | s (es : List (List Nat × D)) (k : List Nat) : DG (.dS es) (.str k) (aget es k)
  | i (es : List (Int × D)) (k : Int) : DG (.dI es) (.int k) (aget es k)
  | t (es : List (List Int × D)) (k : List Int) : DG (.dP es) (.tup (k.map .int)) (aget es k)
inductive DS : AO → D → D → AO → Prop
  | s0 (k : List Nat) (d : D) : DS .d0 (.str k) d (.dS [(k, d)])
  | i0 (k : Int) (d : D) : DS .d0 (.int k) d (.dI [(k, d)])
  | t0 (k : List Int) (d : D) : DS .d0 (.tup (k.map .int)) d (.dP [(k, d)])
  | s {es : List (List Nat × D)} (k : List Nat) (d : D) (h : es.length ≤ big) : DS (.dS es) (.str k) d (.dS (aput es k d))
  | i {es : List (Int × D)} (k : Int) (d : D) (h : es.length ≤ big) : DS (.dI es) (.int k) d (.dI (aput es k d))
  | t {es : List (List Int × D)} (k : List Int) (d : D) (h : es.length ≤ big) : DS (.dP es) (.tup (k.map .int)) d (.dP (aput es k d))
inductive CA (st : List AO) : CmpOp → AV → AV → Bool → Prop
  | d {op : CmpOp} {x y : D} {b : Bool} (h : CD op x y b) : CA st op (.d x) (.d y) b
  | inD {x : D} {n : Nat} {o : AO} {r : Option D} (h : st[n]? = some o) (g : DG o x r) : CA st .In (.d x) (.ob n) r.isSome
  | is_ (n : Nat) : CA st .Is (.ob n) (.d .non) false
  | isN (n : Nat) : CA st .IsNot (.ob n) (.d .non) true
inductive BinR : BO → AV → AV → AV → Prop
  | add (x y : Int) : BinR .add (.d (.int x)) (.d (.int y)) (.d (.int (x + y)))
  | sub (x y : Int) : BinR .sub (.d (.int x)) (.d (.int y)) (.d (.int (x - y)))
  | mod {x y : Int} (h : y ≠ 0) : BinR .mod (.d (.int x)) (.d (.int y)) (.d (.int (x.fmod y)))
  | fdiv {x y : Int} (h : y ≠ 0 ∧ y.natAbs < 1073741824) : BinR .fdiv (.d (.int x)) (.d (.int y)) (.d (.int (x.fdiv y)))
  | pow : BinR .pow (.d (.int 10)) (.d (.int 18)) (.d (.int 1000000000000000000))
  | addS {x y : List Nat} (h : x.length + y.length ≤ big) : BinR .add (.d (.str x)) (.d (.str y)) (.d (.str (x ++ y)))
  | addL {x y : List D} (h : x.length + y.length ≤ big) : BinR .add (.d (.lst x)) (.d (.lst y)) (.d (.lst (x ++ y)))
noncomputable def pyIdx (k : Int) (n : Nat) : Option Nat := seqIndex? k n
noncomputable def idxL (l : List D) (k : Int) (d : D) : Prop := k.natAbs < 2 ^ 32 ∧ (pyIdx k l.length).bind (l[·]?) = some d
inductive IdxR (st : List AO) : AV → AV → AV → Prop
  | tup {l : List D} {k : Int} {d : D} (h : idxL l k d) : IdxR st (.d (.tup l)) (.d (.int k)) (.d d)
  | lst {l : List D} {k : Int} {d : D} (h : idxL l k d) : IdxR st (.d (.lst l)) (.d (.int k)) (.d d)
  | ob {n : Nat} {l : List D} {k : Int} {d : D} (o : st[n]? = some (.lst l)) (h : idxL l k d) : IdxR st (.ob n) (.d (.int k)) (.d d)
  | str {s : List Nat} {k : Int} {c : Nat} (hk : k.natAbs < 2 ^ 32) (h : (pyIdx k s.length).bind (s[·]?) = some c) : IdxR st (.d (.str s)) (.d (.int k)) (.d (.str [c]))
inductive ToR : AV → AV → AV → Prop
  | lst {l : List D} {k : Int} (h : 0 ≤ k ∧ k.natAbs < 2 ^ 32 ∧ l.length ≤ big) : ToR (.d (.lst l)) (.d (.int k)) (.d (.lst (l.take k.toNat)))
  | tup {l : List D} {k : Int} (h : 0 ≤ k ∧ k.natAbs < 2 ^ 32 ∧ l.length ≤ big) : ToR (.d (.tup l)) (.d (.int k)) (.d (.tup (l.take k.toNat)))
inductive FromR : AV → AV → AV → Prop
  | str {s : List Nat} {k : Int} (h : 0 ≤ k ∧ k.natAbs < 2 ^ 32 ∧ s.length ≤ big) : FromR (.d (.str s)) (.d (.int k)) (.d (.str (s.drop k.toNat)))
noncomputable def joinN (sep : List Nat) : List (List Nat) → List Nat
  | [] => []
  | [x] => x
  | x :: r => x ++ sep ++ joinN sep r
inductive BiR (st : List AO) : BI → List AV → AV → Prop
  | int (n : Int) : BiR st .int [.d (.int n)] (.d (.int n))
  | lenS {s : List Nat} (h : s.length ≤ big) : BiR st .len [.d (.str s)] (.d (.int s.length))
  | lenL {l : List D} (h : l.length ≤ big) : BiR st .len [.d (.lst l)] (.d (.int l.length))
  | lenT {l : List D} (h : l.length ≤ big) : BiR st .len [.d (.tup l)] (.d (.int l.length))
  | lenO {n : Nat} {l : List D} (o : st[n]? = some (.lst l)) (h : l.length ≤ big) : BiR st .len [.ob n] (.d (.int l.length))
  | chr {n : Int} (h : 0 ≤ n ∧ n.natAbs < 256) : BiR st .chr [.d (.int n)] (.d (.str [n.toNat]))
  | ord (c : Nat) : BiR st .ord [.d (.str [c])] (.d (.int c))
  | str {n : Int} (h : n.natAbs < 10 ^ 10) : BiR st .str [.d (.int n)] (.d (.str (codes (toString n))))
  | abs (n : Int) : BiR st .abs [.d (.int n)] (.d (.int n.natAbs))
  | min (x y : Int) : BiR st .min [.d (.int x), .d (.int y)] (.d (.int (if y < x then y else x)))
  | tuple {l : List D} (h : l.length ≤ big) : BiR st .tuple [.d (.lst l)] (.d (.tup l))
noncomputable def MB.isL : MB → Bool | .append => true | .pop => true | .reverse => true | _ => false
noncomputable def MB.isS : MB → Bool | .join => true | .split => true | .startswith => true | _ => false
inductive MbT (st : List AO) : MB → AV → Prop
  | lst {n : Nat} {l : List D} {m : MB} (o : st[n]? = some (.lst l)) (h : m.isL = true) : MbT st m (.ob n)
  | get {n : Nat} {d : D} {o : AO} {r : Option D} (h : st[n]? = some o) (g : DG o d r) : MbT st .get (.ob n)
  | str {s : List Nat} {m : MB} (h : m.isS = true) : MbT st m (.d (.str s))
inductive MbR (st : List AO) : MB → AV → List AV → AV → List AO → Prop
  | append {n : Nat} {l : List D} (x : D) (o : st[n]? = some (.lst l)) (h : l.length ≤ big) : MbR st .append (.ob n) [.d x] (.d .non) (st.set n (.lst (l ++ [x])))
  | pop {n : Nat} {l : List D} {x : D} (o : st[n]? = some (.lst l)) (h : l.length ≤ big) (g : l.getLast? = some x) : MbR st .pop (.ob n) [] (.d x) (st.set n (.lst l.dropLast))
  | reverse {n : Nat} {l : List D} (o : st[n]? = some (.lst l)) (h : l.length ≤ big) : MbR st .reverse (.ob n) [] (.d .non) (st.set n (.lst l.reverse))
  | startswith (x y : List Nat) : MbR st .startswith (.d (.str x)) [.d (.str y)] (.d (.boo (decide (y.length ≤ x.length) && x.take y.length == y))) st
  | get {n : Nat} {o : AO} {k : D} {r : Option D} (h : st[n]? = some o) (g : DG o k r) : MbR st .get (.ob n) [.d k] (.d (r.getD .non)) st
  | getE {n : Nat} {o : AO} {k : D} {r : Option D} (e : D) (h : st[n]? = some o) (g : DG o k r) : MbR st .get (.ob n) [.d k, .d e] (.d (r.getD e)) st
  | join {n : Nat} {ss : List (List Nat)} (sep : List Nat) (o : st[n]? = some (.lst (ss.map .str))) (h : (ss.map (·.length)).sum + ss.length * sep.length ≤ 2 ^ 24) : MbR st .join (.d (.str sep)) [.ob n] (.d (.str (joinN sep ss))) st
  | joinD {ss : List (List Nat)} (sep : List Nat) (h : (ss.map (·.length)).sum + ss.length * sep.length ≤ 2 ^ 24) : MbR st .join (.d (.str sep)) [.d (.lst (ss.map .str))] (.d (.str (joinN sep ss))) st
  | split {ss : List (List Nat)} {x y : List Nat} (hy : (y.length == 0) = false) (hx : x.length + 2 ≤ big) (e : Txt.split ⟨x.toArray⟩ ⟨y.toArray⟩ = ss.map fun z => ⟨z.toArray⟩) : MbR st .split (.d (.str x)) [.d (.str y)] (.d (.lst (ss.map .str))) st
inductive JrR : AV → AV → AV → Prop
  | mk {ss : List (List Nat)} (sep : List Nat) (h : ss.length ≤ big) (g : (ss.reverse.map (·.length)).sum + ss.length * sep.length ≤ 2 ^ 24) : JrR (.d (.str sep)) (.d (.lst (ss.map .str))) (.d (.str (joinN sep ss.reverse)))
inductive ItR : IK → AV → List D → Prop
  | lst {l : List D} (h : l.length ≤ big) : ItR .over (.d (.lst l)) l
  | tup {l : List D} (h : l.length ≤ big) : ItR .over (.d (.tup l)) l
  | str {s : List Nat} (h : s.length ≤ big) : ItR .over (.d (.str s)) (s.map fun c => .str [c])
  | range {n : Int} {np p : Pos} (h : n.natAbs ≤ 2 ^ 24) : ItR (.range np p) (.d (.int n)) ((List.range n.toNat).map fun i => .int (Int.ofNat i))
  | rev {l : List D} {np p : Pos} (h : l.length ≤ big) : ItR (.rev np p) (.d (.lst l)) l.reverse
abbrev Vars := List (Option AV)
inductive Fl where | nx | bk | ct | rt (v : AV)
abbrev CallT := Nat → List AV → List AO → (AV → List AO → Prop) → Prop
noncomputable def finX (c : Bool) (Q : AV → List AO → Prop) : AV → List AO → Prop :=
  match c with
  | true => fun v st => trW st v fun b => Q (.d (.boo b)) st
  | false => Q
noncomputable def stp : BoolOp → Bool | .And => false | .Or => true
section
variable (P : Pg) (C N : CallT)
noncomputable def insOf (st : List AO) : AV → Option (Nat × List (Nat × AV))
  | .ob n => match st[n]? with | some (.ins c fs) => some (c, fs) | _ => none
  | _ => none
noncomputable def fget : List (Nat × AV) → Nat → Option AV
  | [], _ => none
  | (f, v) :: r, x => if f = x then some v else fget r x
noncomputable def fput : List (Nat × AV) → Nat → AV → List (Nat × AV)
  | [], x, v => [(x, v)]
  | (f, e) :: r, x, v => if f = x then (f, v) :: r else (f, e) :: fput r x v
noncomputable def mthOf (c m : Nat) : Option Nat := (P.mtab[c]?).bind (·.lookup m)
noncomputable def wp0 : E0 → D → List AV → List AO → (AV → List AO → Prop) → Prop
  | .met _ _ m _ _ _ _, d, [o], st, Q => match insOf st o with
    | some (k, _) => (match mthOf P k m with | some f => C f [o, .d d] st Q | none => False)
    | none => False
  | .met .., _, _, _, _ => False
  | .cal f _ _ _ _ _, d, cv, st, Q => C f (.d d :: cv) st Q
noncomputable def compW (b : D → List AO → (AV → List AO → Prop) → Prop) : List D → List D → List AO → (List D → List AO → Prop) → Prop
  | [], acc, st, Q => Q acc st
  | d :: r, acc, st, Q => b d st fun v st => match v with | .d y => compW b r (acc ++ [y]) st Q | _ => False
noncomputable def capsOf (vs : Vars) : List Nat → Option (List AV)
  | [] => some []
  | i :: r => match vs.getD i none, capsOf vs r with
    | some (.d x), some l => some (.d x :: l)
    | some (.ob n), some l => some (.ob n :: l)
    | _, _ => none
mutual
noncomputable def wpX : X → Bool → Vars → List AO → (AV → List AO → Prop) → Prop
  | .loc i _, c, vs, st, Q => match vs.getD i none with
    | some (.own l) => c = true ∧ finX c Q (.own l) st
    | some v => finX c Q v st
    | none => False
  | .gv k _, c, _, st, Q => match (P.gtab.map (·.2))[k]? with | some d => finX c Q (.d d) st | none => False
  | .cint n _ _, c, _, st, Q => finX c Q (.d (.int n)) st
  | .cstr s _ _, c, _, st, Q => finX c Q (.d (.str (codes s))) st
  | .cnon _ _, c, _, st, Q => finX c Q (.d .non) st
  | .cboo b _ _, c, _, st, Q => finX c Q (.d (.boo b)) st
  | .neg a _, c, vs, st, Q => wpX a false vs st fun v st => match v with | .d (.int n) => finX c Q (.d (.int (-n))) st | _ => False
  | .not a _, true, vs, st, Q => wpX a true vs st fun v st => match v with | .d (.boo b) => Q (.d (.boo (!b))) st | _ => False
  | .not a _, false, vs, st, Q => wpX a false vs st fun v st => trW st v fun b => Q (.d (.boo (!b))) st
  | .bin o a b _, c, vs, st, Q => wpX a false vs st fun x st => wpX b false vs st fun y st => ∃ r, BinR o x y r ∧ finX c Q r st
  | .cmp o a b _, c, vs, st, Q => wpX a false vs st fun x st => wpX b false vs st fun y st => ∃ r, CA st o x y r ∧ Q (.d (.boo r)) st
  | .bool o as _, c, vs, st, Q => wpB o as c vs st Q
  | .ite t a b _, c, vs, st, Q => wpX t true vs st fun v st => match v with | .d (.boo x) => if x = true then wpX a c vs st Q else wpX b c vs st Q | _ => False
  | .tup as _ _, c, vs, st, Q => wpDs as vs st fun l st => l.length ≤ big ∧ finX c Q (.d (.tup l)) st
  | .lst as _, c, vs, st, Q => wpDs as vs st fun l st => l.length ≤ big ∧ finX c Q (.d (.lst l)) st
  | .newl _, c, _, st, Q => finX c Q (.ob st.length) (st ++ [.lst []])
  | .newls as _, c, vs, st, Q => wpDs as vs st fun l st => l.length ≤ big ∧ finX c Q (.ob st.length) (st ++ [.lst l])
  | .newd _, c, _, st, Q => finX c Q (.ob st.length) (st ++ [.d0])
  | .att a f _, c, vs, st, Q => wpX a false vs st fun v st => match insOf st v with | some (_, fs) => (match fget fs f with | some r => finX c Q r st | none => False) | none => False
  | .idx a i _, c, vs, st, Q => wpX a false vs st fun x st => wpX i false vs st fun y st => ∃ r, IdxR st x y r ∧ finX c Q r st
  | .slcTo a i _ _, c, vs, st, Q => wpX a false vs st fun x st => wpX i false vs st fun y st => ∃ r, ToR x y r ∧ finX c Q r st
  | .slcFrom a i _ _, c, vs, st, Q => wpX a false vs st fun x st => wpX i false vs st fun y st => ∃ r, FromR x y r ∧ finX c Q r st
  | .cal f as _ _, c, vs, st, Q => wpXs as vs st fun l st => C f l st (finX c Q)
  | .new k as _ _, c, vs, st, Q => wpXs as vs st fun l st => N k l st (finX c Q)
  | .bi b as _ _, c, vs, st, Q => wpXs as vs st fun l st => ∃ r, BiR st b l r ∧ finX c Q r st
  | .met a m as _ _, c, vs, st, Q => wpX a false vs st fun v st => match insOf st v with
    | some (k, _) => (match mthOf P k m with | some f => wpXs as vs st fun l st => C f (v :: l) st (finX c Q) | none => False)
    | none => False
  | .mb a m as _ _, c, vs, st, Q => wpX a false vs st fun v st => MbT st m v ∧ wpXs as vs st fun l st => ∃ r st', MbR st m v l r st' ∧ finX c Q r st'
  | .jrev a l _ _ _ _, c, vs, st, Q => wpX a false vs st fun x st => MbT st .join x ∧ wpX l false vs st fun y st => ∃ r, JrR x y r ∧ finX c Q r st
  | .comp e it _ _ _, c, vs, st, Q => ∃ cv, capsOf vs e.caps = some cv ∧ wpX it false vs st fun v st => ∃ l, ItR .over v l ∧ l.length ≤ big ∧ compW (fun d st Q => wp0 P C e d cv st Q) l [] st fun ys st => finX c Q (.d (.lst ys)) st
noncomputable def wpB : BoolOp → Xs → Bool → Vars → List AO → (AV → List AO → Prop) → Prop
  | _, .nil, _, _, _, _ => False
  | o, .cons x r, c, vs, st, Q => match r with
    | .nil => wpX x c vs st Q
    | .cons _ _ => wpX x c vs st fun v st => trW st v fun b => if b = stp o then Q v st else wpB o r c vs st Q
noncomputable def wpXs : Xs → Vars → List AO → (List AV → List AO → Prop) → Prop
  | .nil, _, st, Q => Q [] st
  | .cons x r, vs, st, Q => wpX x false vs st fun v st => wpXs r vs st fun l st => Q (v :: l) st
noncomputable def wpDs : Xs → Vars → List AO → (List D → List AO → Prop) → Prop
  | .nil, _, st, Q => Q [] st
  | .cons x r, vs, st, Q => wpX x false vs st fun v st => match v with | .d y => wpDs r vs st fun l st => Q (y :: l) st | _ => False
end
noncomputable def setT : Tg → AV → Vars → Option Vars
  | .nm i _, v, vs => if i < vs.length then some (vs.set i (some v)) else none
  | .tp is _ _, .d (.tup l), vs => if is.length = l.length then
      (is.zip l).foldlM (fun (vs : Vars) (q : (Nat × Pos) × D) => if q.1.1 < vs.length then some (vs.set q.1.1 (some (.d q.2))) else none) vs else none
  | _, _, _ => none
noncomputable def loopW (t : Vars → List AO → (AV → List AO → Prop) → Prop) (b : Vars → List AO → (Fl → Vars → List AO → Prop) → Prop) : Nat → Vars → List AO → (Fl → Vars → List AO → Prop) → Prop
  | 0, _, _, _ => False
  | n + 1, vs, st, Q => t vs st fun v st => match v with
    | .d (.boo true) => b vs st fun fl vs st => match fl with
      | .nx => loopW t b n vs st Q
      | .ct => loopW t b n vs st Q
      | .bk => Q .nx vs st
      | .rt v => Q (.rt v) vs st
    | .d (.boo false) => Q .nx vs st
    | _ => False
noncomputable def loopF (t : Tg) (b : Vars → List AO → (Fl → Vars → List AO → Prop) → Prop) : List D → Vars → List AO → (Fl → Vars → List AO → Prop) → Prop
  | [], vs, st, Q => Q .nx vs st
  | x :: r, vs, st, Q => match setT t (.d x) vs with
    | some vs => b vs st fun fl vs st => match fl with
      | .nx => loopF t b r vs st Q
      | .ct => loopF t b r vs st Q
      | .bk => Q .nx vs st
      | .rt v => Q (.rt v) vs st
    | none => False
mutual
noncomputable def wpS : S → Vars → List AO → (Fl → Vars → List AO → Prop) → Prop
  | .asg t x _, vs, st, Q => wpX P C N x false vs st fun v st => match setT t v vs with | some vs => Q .nx vs st | none => False
  | .asgA a f x _ _, vs, st, Q => wpX P C N x false vs st fun v st => wpX P C N a false vs st fun o st => ∃ n c fs, o = .ob n ∧ st[n]? = some (.ins c fs) ∧ fs.length ≤ 900 ∧ Q .nx vs (st.set n (.ins c (fput fs f v)))
  | .asgI a k x _ _, vs, st, Q => wpX P C N x false vs st fun v st => wpX P C N a false vs st fun o st => wpX P C N k false vs st fun k st => ∃ n k' v' o1 o2, o = .ob n ∧ k = .d k' ∧ v = .d v' ∧ st[n]? = some o1 ∧ DS o1 k' v' o2 ∧ Q .nx vs (st.set n o2)
  | .delI a k _ _, vs, st, Q => wpX P C N a false vs st fun o st => wpX P C N k false vs st fun k st => ∃ n k' es, o = .ob n ∧ k = .d (.int k') ∧ st[n]? = some (.dI es) ∧ es.length ≤ big ∧ (aget es k').isSome = true ∧ Q .nx vs (st.set n (.dI (adel es k')))
  | .exp x _, vs, st, Q => wpX P C N x false vs st fun _ st => Q .nx vs st
  | .iff t a b _, vs, st, Q => wpX P C N t true vs st fun v st => match v with | .d (.boo x) => if x = true then wpSs a vs st Q else wpSs b vs st Q | _ => False
  | .whl t b _, vs, st, Q => ∃ n, loopW (fun vs st Q => wpX P C N t true vs st Q) (fun vs st Q => wpSs b vs st Q) n vs st Q
  | .for_ t k x b _, vs, st, Q => wpX P C N x false vs st fun v st => ∃ l, ItR k v l ∧ loopF t (fun vs st Q => wpSs b vs st Q) l vs st Q
  | .ret x _, vs, st, Q => wpX P C N x false vs st fun v st => Q (.rt v) vs st
  | .pas _, vs, st, Q => Q .nx vs st
  | .brk _, vs, st, Q => Q .bk vs st
  | .con _, vs, st, Q => Q .ct vs st
  | .ownN i as _ _ _, vs, st, Q => i < vs.length ∧ wpDs P C N as vs st fun l st => l.length ≤ big ∧ Q .nx (vs.set i (some (.own l))) st
  | .ownA i x _ _ _ _, vs, st, Q => match vs.getD i none with
    | some (.own l) => wpX P C N x false vs st fun v st => match v with | .d x => l.length ≤ big ∧ Q .nx (vs.set i (some (.own (l ++ [x])))) st | _ => False
    | _ => False
  | .frz i, vs, st, Q => match vs.getD i none with | some (.own l) => Q .nx (vs.set i (some (.d (.lst l)))) st | _ => False
  | .bad _, _, _, _ => False
noncomputable def wpSs : Ss → Vars → List AO → (Fl → Vars → List AO → Prop) → Prop
  | .nil, vs, st, Q => Q .nx vs st
  | .cons s r, vs, st, Q => wpS s vs st fun fl vs st => match fl with
    | .nx => wpSs r vs st Q
    | .bk => Q .bk vs st
    | .ct => Q .ct vs st
    | .rt v => Q (.rt v) vs st
end
end
end Mn
end
section
namespace Mn
noncomputable def nameAt (env : Env) (h : Heap) (x : Str) (v : Value) : Prop :=
  (env.kindOf x = some .local ∧ ∃ m, h.Ns env.locals m ∧ m x = some v) ∨
  ((env.kindOf x = some .cell ∨ env.kindOf x = some .free) ∧ ∃ c, env.cells.lookup x = some c ∧ h.IsCell c (some v))
noncomputable def fpOf (env : Env) : List Addr := env.locals :: env.cells.map (·.2)
structure EOK (env : Env) (ns : List String) : Prop where
  kind : env.scope.kind = .function
  gl : env.globals = mainGlobals
  bt : env.builtins = builtinsNs
  nd : (ns.map Str.ofString).Nodup
  dbg : ∀ x ∈ ns, (Str.ofString x == ("__debug__" : Str)) = false ∧ (Str.ofString x == ("__classdict__" : Str)) = false
  cn : (fpOf env).Nodup
  inter : interactive env = false
noncomputable def VRo (F : Fz) (α : List SA) (h : Heap) (a : Addr) : AV → Value → Prop
  | .own l, v => v = .ref a ∧ ∃ vs, listAt h a vs ∧ DRs F l vs
  | av, v => VR F α av v
theorem VRo.d {F : Fz} {α : List SA} {h : Heap} {a : Addr} {x : D} {v : Value} (r : VRo F α h a (.d x) v) : DR F x v := r
noncomputable def isOwn : AV → Bool
  | .own _ => true
  | _ => false
structure Frm (F : Fz) (α : List SA) (env : Env) (ns : List String) (vars : Vars) (oa : Nat → Addr) (h : Heap) : Prop where
  hn : ∃ m, h.Ns env.locals m
  len : vars.length = ns.length
  at_ : ∀ (i : Nat) (x : String) (av : AV), ns[i]? = some x → vars[i]? = some (some av) → ∃ v, nameAt env h (Str.ofString x) v ∧ VRo F α h (oa i) av v
  fp : ∀ a ∈ fpOf env, F a = none ∧ a ∉ sAddrs α ∧ ∃ o, h.get? a = some o
  own : ∀ (i : Nat) (l : List D), vars[i]? = some (some (.own l)) → F (oa i) = none ∧ oa i ∉ sAddrs α ∧ oa i ∉ fpOf env
  oinj : ∀ (i j : Nat) (l m : List D), vars[i]? = some (some (.own l)) → vars[j]? = some (some (.own m)) → i ≠ j → oa i ≠ oa j
  cells : ∀ c ∈ env.cells.map (·.2), ∃ v, h.IsCell c v
theorem fp_locals (env : Env) : env.locals ∈ fpOf env := by unfold fpOf; exact List.mem_cons_self
theorem fp_cell {env : Env} {x : Str} {c : Addr} (h : env.cells.lookup x = some c) : c ∈ fpOf env := by
  unfold fpOf
  exact List.mem_cons_of_mem _ (List.mem_map.mpr ⟨(x, c), mem_of_lookup h, rfl⟩)
theorem nameAt.at {env : Env} {h h' : Heap} {x : Str} {v : Value} (n : nameAt env h x v) (k : ∀ a ∈ fpOf env, ∀ o, h.get? a = some o → h'.get? a = some o) : nameAt env h' x v := by
  rcases n with ⟨hk, m, ⟨o, es, ep, ho, r⟩, hm⟩ | ⟨hk, c, hc, o, ho, hd⟩
  · exact .inl ⟨hk, m, ⟨o, es, ep, k _ (fp_locals env) _ ho, r⟩, hm⟩
  · exact .inr ⟨hk, c, hc, o, k _ (fp_cell hc) _ ho, hd⟩
theorem own_lt {F : Fz} {α : List SA} {env : Env} {ns : List String} {vars : Vars} {oa : Nat → Addr} {h : Heap} (f : Frm F α env ns vars oa h) {i : Nat} {l : List D} (e : vars[i]? = some (some (.own l))) :
    ∃ x, ns[i]? = some x ∧ nameAt env h (Str.ofString x) (.ref (oa i)) ∧ ∃ vs, listAt h (oa i) vs ∧ DRs F l vs := by
  have hi : i < vars.length := (List.getElem?_eq_some_iff.mp e).1
  rw [f.len] at hi
  obtain ⟨v, hn, rfl, r⟩ := f.at_ i ns[i] _ (List.getElem?_eq_getElem hi) e
  exact ⟨_, List.getElem?_eq_getElem hi, hn, r⟩
theorem Frm.ext {F F' : Fz} {α α' : List SA} {env : Env} {ns : List String} {vars : Vars} {oa : Nat → Addr} {h h' : Heap} (f : Frm F α env ns vars oa h) (x : ExtE F α h F' α' h') : Frm F' α' env ns vars oa h' := by
  obtain ⟨β, rfl, hβ⟩ := x.pre
  have kp : ∀ a ∈ fpOf env, ∀ o, h.get? a = some o → h'.get? a = some o := fun a ha o e => (x.keep a o e (f.fp a ha).2.1 id).1
  have kF : ∀ a ∈ fpOf env, F' a = F a := fun a ha => let ⟨_, h2, o, e⟩ := f.fp a ha; (x.keep a o e h2 id).2
  have ko : ∀ (i : Nat) (l : List D), vars[i]? = some (some (.own l)) → (∀ o, h.get? (oa i) = some o → h'.get? (oa i) = some o) ∧ F' (oa i) = F (oa i) ∧ oa i ∉ sAddrs (α ++ β) := fun i l e => by
    obtain ⟨_, _, _, vs, ⟨n, hl⟩, _⟩ := own_lt f e
    have hm := (f.own i l e).2.1
    exact ⟨fun o e' => (x.keep _ o e' hm id).1, (x.keep _ _ hl hm id).2, not_mem_ext hl hm hβ⟩
  refine ⟨?_, f.len, fun i y av hy hv => ?_, fun a ha => ?_, fun i l e => ?_, f.oinj, fun c hc => ?_⟩
  · obtain ⟨m, o, es, ep, ho, r⟩ := f.hn
    exact ⟨m, o, es, ep, kp _ (fp_locals env) _ ho, r⟩
  · obtain ⟨v, hn, hr⟩ := f.at_ i y av hy hv
    refine ⟨v, hn.at kp, ?_⟩
    cases av with
    | d y => exact DR.mono x.sub hr
    | ob n => obtain ⟨p, hp, e⟩ := hr; exact ⟨p, get_prefix hp, e⟩
    | own l =>
      obtain ⟨e, vs, ⟨o, ho⟩, q⟩ := hr
      exact ⟨e, vs, ⟨o, (ko i l hv).1 _ ho⟩, q.mono x.sub⟩
  · obtain ⟨h1, h2, o, h3⟩ := f.fp a ha
    exact ⟨(kF a ha).trans h1, not_mem_ext h3 h2 hβ, o, kp a ha o h3⟩
  · obtain ⟨h1, h2, h3⟩ := f.own i l e
    exact ⟨(ko i l e).2.1.trans h1, (ko i l e).2.2, h3⟩
  · obtain ⟨v, o, ho, hd⟩ := f.cells c hc
    exact ⟨v, o, kp c (List.mem_cons_of_mem _ hc) _ ho, hd⟩
section
variable {M : Model} {A : Around} {E : Value → Shared → Prop} {s : Shared} {env : Env} {ns : List String}
theorem ld_name {x : Str} {p : Pos} {v : Value} {Q : Value → Shared → Prop} (hk : env.scope.kind = .function) (h1 : (x == ("__debug__" : Str)) = false) (h2 : (x == ("__classdict__" : Str)) = false) (n : nameAt env s.heap x v) (h : Q v s) :
    wpAny M A (eval (.Name x p) env) Q E s := by
  refine wpAny_Name ?_ h1
  rcases n with ⟨hl, m, hn, hm⟩ | ⟨hl | hl, c, hc, hv⟩
  · exact wpAny_loadName_local hk hl hn hm h
  · exact wpAny_loadName_cell hk hl hc hv h
  · exact wpAny_loadName_free hk hl hc hv h h2
theorem ld_var {F : Fz} {α : List SA} {vars : Vars} {oa : Nat → Addr} {i : Nat} {p : Pos} {av : AV} {Q : Value → Shared → Prop} (K : EOK env ns) (f : Frm F α env ns vars oa s.heap)
    (hv : vars.getD i none = some av) (h : ∀ v, VRo F α s.heap (oa i) av v → Q v s) : wpAny M A (eval (nmE ns i p) env) Q E s := by
  have hv' : vars[i]? = some (some av) := by
    rw [List.getD_eq_getElem?_getD] at hv
    cases e : vars[i]? with
    | none => rw [e] at hv; cases hv
    | some o => rw [e] at hv; simpa using hv
  have hi : i < ns.length := by rw [← f.len]; exact (List.getElem?_eq_some_iff.mp hv').1
  have hx : ns[i]? = some ns[i] := List.getElem?_eq_getElem hi
  obtain ⟨v, hn, hr⟩ := f.at_ i _ av hx hv'
  have d := K.dbg _ (List.getElem_mem hi)
  unfold nmE
  rw [List.getD_eq_getElem?_getD, hx]
  exact ld_name K.kind d.1 d.2 hn (h v hr)
theorem lookup_addr_ne {env : Env} (hc : (fpOf env).Nodup) {x y : Str} {c d : Addr} (hx : env.cells.lookup x = some c) (hy : env.cells.lookup y = some d) (hne : x ≠ y) : c ≠ d := by
  intro e
  subst e
  have hn : (env.cells.map (·.2)).Nodup := (List.nodup_cons.mp hc).2
  have : ∀ {l : List (Str × Addr)}, (l.map (·.2)).Nodup → ∀ {x y : Str}, (x, c) ∈ l → (y, c) ∈ l → x = y := by
    intro l
    induction l with
    | nil => intro _ x y h; cases h
    | cons q l ih =>
      intro hn x y h1 h2
      rw [List.map_cons, List.nodup_cons] at hn
      rcases List.mem_cons.mp h1 with e | h1 <;> rcases List.mem_cons.mp h2 with e' | h2
      · rw [← e] at e'; exact (Prod.mk.inj e').1.symm
      · exact absurd (List.mem_map.mpr ⟨_, h2, by rw [← e]⟩) hn.1
      · exact absurd (List.mem_map.mpr ⟨_, h1, by rw [← e']⟩) hn.1
      · exact ih hn.2 h1 h2
  exact hne (this hn (mem_of_lookup hx) (mem_of_lookup hy))
theorem cell_ne_locals {env : Env} (hc : (fpOf env).Nodup) {x : Str} {c : Addr} (hx : env.cells.lookup x = some c) : c ≠ env.locals := by
  rintro rfl
  exact (List.nodup_cons.mp hc).1 (List.mem_map.mpr ⟨_, mem_of_lookup hx, rfl⟩)
theorem st_name {x : Str} {v : Value} {Q : Unit → Shared → Prop} (hk : env.scope.kind = .function) (hc : (fpOf env).Nodup) (hL : ∃ m, s.heap.Ns env.locals m)
    (hcell : ∀ c ∈ env.cells.map (·.2), ∃ v, s.heap.IsCell c v)
    (hx : env.kindOf x = some .local ∨ (env.kindOf x = some .cell ∧ (env.cells.lookup x).isSome = true))
    (h : ∀ h' tk b, b ∈ fpOf env → Heap.SameBut b s.heap h' → nameAt env h' x v → (∀ y u, y ≠ x → nameAt env s.heap y u → nameAt env h' y u) → (∃ m, h'.Ns env.locals m) → (∀ c ∈ env.cells.map (·.2), ∃ v, h'.IsCell c v) → Q () { s with heap := h', toks := tk }) :
    wpAny M A (storeName env x v) Q E s := by
  rcases hx with hl | ⟨hl, hs⟩
  · obtain ⟨m, hn⟩ := hL
    refine wpAny_storeName_local hl hn (fun h' hn' hs' => h h' _ env.locals (fp_locals env) hs' (.inl ⟨hl, _, hn', by simp⟩) ?_ ⟨_, hn'⟩ ?_) (by rw [hk]; rfl)
    · rintro y u hy (⟨hk', m', hn'', hm'⟩ | ⟨hk', c, hc', hv⟩)
      · refine .inl ⟨hk', _, hn', ?_⟩
        rw [if_neg hy]
        obtain ⟨o, es, ep, ho, hd, hs1, hf⟩ := hn
        obtain ⟨o', es', ep', ho', hd', hs1', hf'⟩ := hn''
        rw [ho] at ho'; cases ho'
        rw [hd] at hd'; cases hd'
        rw [← hf, hf']; exact hm'
      · exact .inr ⟨hk', c, hc', hv.sameBut hs' (cell_ne_locals hc hc')⟩
    · intro c hcm
      obtain ⟨v, hv⟩ := hcell c hcm
      refine ⟨v, hv.sameBut hs' ?_⟩
      rintro rfl
      exact (List.nodup_cons.mp hc).1 hcm
  · obtain ⟨c, hc'⟩ := Option.isSome_iff_exists.mp hs
    obtain ⟨v₀, hv₀⟩ := hcell c (List.mem_map.mpr ⟨_, mem_of_lookup hc', rfl⟩)
    obtain ⟨m, hn⟩ := hL
    refine wpAny_storeName_cell hk hl hc' hv₀ fun h' hv' hs' => h h' s.toks c (fp_cell hc') hs' (.inr ⟨.inl hl, c, hc', hv'⟩) ?_ ⟨m, hn.sameBut hs' (cell_ne_locals hc hc').symm⟩ ?_
    · rintro y u hy (⟨hk', m', hn'', hm'⟩ | ⟨hk', d, hd', hv⟩)
      · exact .inl ⟨hk', m', hn''.sameBut hs' (cell_ne_locals hc hc').symm, hm'⟩
      · exact .inr ⟨hk', d, hd', hv.sameBut hs' (lookup_addr_ne hc hd' hc' hy)⟩
    · intro d hdm
      by_cases e : d = c
      · subst e; exact ⟨_, hv'⟩
      · obtain ⟨v, hv⟩ := hcell d hdm
        exact ⟨v, hv.sameBut hs' e⟩
end
end Mn
end
section
namespace Mn
noncomputable def Fz.put (F : Fz) (a : Addr) (o : Obj) : Fz := fun b => if b = a then some o else F b
theorem Fz.put_self (F : Fz) (a : Addr) (o : Obj) : F.put a o a = some o := by simp [Fz.put]
theorem Fz.put_ne (F : Fz) {a b : Addr} (o : Obj) (h : b ≠ a) : F.put a o b = F b := by simp [Fz.put, h]
theorem Fz.sub_put {F : Fz} {a : Addr} (o : Obj) (h : F a = none) : F.Sub (F.put a o) := fun b x e => by
  rw [Fz.put_ne _ _ (fun e' => by subst e'; rw [h] at e; cases e)]; exact e
section
variable {Γ : Wd} {F : Fz} {α : List SA} {st : List AO} {h h' : Heap}
theorem get_size (h : Heap) {a : Nat} (e : h.objs.size ≤ a) : h.get? a = none := by
  cases e' : h.get? a with
  | none => rfl
  | some o => have : @LT.lt Nat _ a h.objs.size := Heap.lt_size e'; omega
theorem Inv.fnone (I : Inv Γ F α st h) {a : Addr} (e : h.get? a = none) : F a = none := by
  cases e' : F a with
  | none => rfl
  | some o => rw [I.agree a o e'] at e; cases e
theorem Inv.anone (I : Inv Γ F α st h) {a : Addr} (e : h.get? a = none) : a ∉ sAddrs α := fun m => by
  obtain ⟨o, h1⟩ := I.low a m
  rw [h1] at e; cases e
theorem Inv.bkeep (I : Inv Γ F α st h) : ∀ b o, Γ.B.get? b = some o → h.get? b = some o := fun b o e => I.agree b o (I.base b o e)
theorem Inv.other (I : Inv Γ F α st h) (hF : ∀ a o, F a = some o → h'.get? a = some o) (hα : ∀ a ∈ sAddrs α, ∀ o, h.get? a = some o → h'.get? a = some o) : Inv Γ F α st h' := by
  refine ⟨hF, I.base, I.len, fun i p ao hp ho => ?_, I.nof, fun a ha => let ⟨o, e⟩ := I.low a ha; ⟨o, hα a ha o e⟩, I.disj⟩
  have := AOR.mono Γ (β := []) (.refl F) hF (hα _ (mem_sAddrs.mpr ⟨p, List.mem_of_getElem? hp, .inl rfl⟩)) (hα _ (mem_sAddrs.mpr ⟨p, List.mem_of_getElem? hp, .inr rfl⟩)) (I.rep i p ao hp ho)
  rwa [List.append_nil] at this
theorem Inv.sameBut (I : Inv Γ F α st h) {a : Addr} (hs : Heap.SameBut a h h') (hF : F a = none) (hα : a ∉ sAddrs α) : Inv Γ F α st h' :=
  I.other (fun b o e => (hs.2 b (fun e' => by subst e'; rw [hF] at e; cases e)).trans (I.agree b o e)) (fun b hb o e => (hs.2 b (fun e' => by subst e'; exact hα hb)).trans e)
theorem Inv.keeps (I : Inv Γ F α st h) (hk : ∀ b o, h.get? b = some o → h'.get? b = some o) : Inv Γ F α st h' := I.other (fun b o e => hk b o (I.agree b o e)) fun b _ o e => hk b o e
theorem ext_keeps (F : Fz) (α : List SA) {h h' : Heap} (hk : ∀ b o, h.get? b = some o → h'.get? b = some o) : ExtE F α h F α h' := ⟨.refl F, ⟨[], by simp, by simp⟩, fun a o e _ _ => ⟨hk a o e, rfl⟩, fun a o e => ⟨o, hk a o e⟩⟩
theorem Inv.pushAny (I : Inv Γ F α st h) (o : Obj) : Inv Γ F α st (h.push o) := I.keeps fun _ _ e => Heap.get?_push_of_some _ e
theorem Inv.freeze (I : Inv Γ F α st h) (o : Obj) (hf : o.isFreed = false) : Inv Γ (F.put h.objs.size o) α st (h.push o) ∧ ExtE F α h (F.put h.objs.size o) α (h.push o) := by
  have hg : h.get? h.objs.size = none := get_size h (Nat.le_refl _)
  have hn : F h.objs.size = none := I.fnone hg
  have J := I.pushAny o
  have S : F.Sub (F.put h.objs.size o) := Fz.sub_put o hn
  have ag : ∀ a o', (F.put h.objs.size o) a = some o' → (h.push o).get? a = some o' := fun a o' e => by
    by_cases ha : a = h.objs.size
    · subst ha; rw [Fz.put_self] at e; cases e; exact Heap.get?_push_size _ hf
    · rw [Fz.put_ne _ _ ha] at e; exact J.agree a o' e
  have ne : ∀ a o', h.get? a = some o' → a ≠ h.objs.size := fun a o' e e' => by subst e'; rw [hg] at e; cases e
  refine ⟨⟨ag, fun a o' e => S _ _ (I.base a o' e), I.len, fun i p ao hp ho => ?_, fun a ha => ?_, J.low, I.disj⟩, ⟨S, ⟨[], by simp, by simp⟩, fun a o' e _ _ => ⟨Heap.get?_push_of_some _ e, Fz.put_ne _ _ (ne a o' e)⟩, fun a o' e => ⟨o', Heap.get?_push_of_some _ e⟩⟩⟩
  · have := AOR.mono Γ (β := []) S ag (fun _ e => e) (fun _ e => e) (J.rep i p ao hp ho)
    rwa [List.append_nil] at this
  · obtain ⟨o', e⟩ := I.low a ha
    rw [Fz.put_ne _ _ (ne a o' e)]; exact I.nof a ha
theorem Inv.freezeOld (I : Inv Γ F α st h) {a : Addr} {o : Obj} (ho : h.get? a = some o) (hF : F a = none) (hα : a ∉ sAddrs α) : Inv Γ (F.put a o) α st h ∧ Ext (fun b => b = a) F α h (F.put a o) α h := by
  have S : F.Sub (F.put a o) := Fz.sub_put o hF
  have ag : ∀ b o', (F.put a o) b = some o' → h.get? b = some o' := fun b o' e => by
    by_cases hb : b = a
    · subst hb; rw [Fz.put_self] at e; cases e; exact ho
    · rw [Fz.put_ne _ _ hb] at e; exact I.agree b o' e
  refine ⟨⟨ag, fun a o' e => S _ _ (I.base a o' e), I.len, fun i p ao hp ho => ?_, fun b hb => ?_, I.low, I.disj⟩, ⟨S, ⟨[], by simp, by simp⟩, fun b o' e _ hx => ⟨e, Fz.put_ne _ _ hx⟩, fun b o' e => ⟨o', e⟩⟩⟩
  · have := AOR.mono Γ (β := []) S ag (fun _ e => e) (fun _ e => e) (I.rep i p ao hp ho)
    rwa [List.append_nil] at this
  · rw [Fz.put_ne _ _ (fun e => by subst e; exact hα hb)]; exact I.nof b hb
theorem Inv.alloc (I : Inv Γ F α st h) (p : SA) (ao : AO) (h1 : h.get? p.1 = none) (h2 : h.get? p.2 = none) (l1 : ∃ o, h'.get? p.1 = some o) (l2 : ∃ o, h'.get? p.2 = some o)
    (hold : ∀ a o, h.get? a = some o → h'.get? a = some o) (r : AOR Γ F (α ++ [p]) h' p ao) : Inv Γ F (α ++ [p]) (st ++ [ao]) h' ∧ ExtE F α h F (α ++ [p]) h' := by
  have ag : ∀ a o', F a = some o' → h'.get? a = some o' := fun a o' e => hold a _ (I.agree a o' e)
  refine ⟨⟨ag, I.base, by simp [I.len], fun i q a hq ha => ?_, fun a ha => ?_, fun a ha => ?_, ?_⟩, ⟨.refl F, ⟨[p], rfl, by simp [h1, h2]⟩, fun a o e _ _ => ⟨hold a o e, rfl⟩, fun a o e => ⟨o, hold a o e⟩⟩⟩
  · by_cases hi : i < α.length
    · rw [List.getElem?_append_left hi] at hq
      rw [List.getElem?_append_left (I.len ▸ hi)] at ha
      exact AOR.mono Γ (.refl F) ag (hold _) (hold _) (I.rep i q a hq ha)
    · rw [List.getElem?_append_right (lin (Nat.le_of_not_lt hi))] at hq
      rw [List.getElem?_append_right (by rw [← I.len]; exact lin (Nat.le_of_not_lt hi))] at ha
      rw [I.len] at hq
      cases hj : i - st.length with
      | zero => rw [hj] at hq ha; simp at hq ha; subst hq ha; exact r
      | succ j => rw [hj] at hq; simp at hq
  · rw [sAddrs_append, List.mem_append] at ha
    rcases ha with ha | ha
    · exact I.nof a ha
    · obtain ⟨q, hq, e⟩ := mem_sAddrs.mp ha
      rw [List.mem_singleton] at hq; subst hq
      rcases e with rfl | rfl <;> exact I.fnone (by assumption)
  · rw [sAddrs_append, List.mem_append] at ha
    rcases ha with ha | ha
    · obtain ⟨o, e⟩ := I.low a ha; exact ⟨o, hold _ _ e⟩
    · obtain ⟨q, hq, e⟩ := mem_sAddrs.mp ha
      rw [List.mem_singleton] at hq; subst hq
      rcases e with rfl | rfl <;> assumption
  · refine List.pairwise_append.mpr ⟨I.disj, List.pairwise_singleton _ _, fun q hq r hr => ?_⟩
    rw [List.mem_singleton] at hr; subst hr
    obtain ⟨o1, a1⟩ := I.low _ (mem_sAddrs.mpr ⟨q, hq, .inl rfl⟩)
    obtain ⟨o2, a2⟩ := I.low _ (mem_sAddrs.mpr ⟨q, hq, .inr rfl⟩)
    refine ⟨?_, ?_, ?_, ?_⟩ <;> intro e
    · rw [e, h1] at a1; cases a1
    · rw [e, h2] at a1; cases a1
    · rw [e, h1] at a2; cases a2
    · rw [e, h2] at a2; cases a2
theorem SDisj.at {α : List SA} (d : SDisj α) {i j : Nat} {p q : SA} (hp : α[i]? = some p) (hq : α[j]? = some q) (hij : i ≠ j) : p.1 ≠ q.1 ∧ p.1 ≠ q.2 ∧ p.2 ≠ q.1 ∧ p.2 ≠ q.2 := by
  obtain ⟨hi, rfl⟩ := List.getElem?_eq_some_iff.mp hp
  obtain ⟨hj, rfl⟩ := List.getElem?_eq_some_iff.mp hq
  rw [SDisj, List.pairwise_iff_getElem] at d
  rcases Nat.lt_or_gt_of_ne hij with h | h
  · exact d i j hi hj h
  · obtain ⟨a, b, c, e⟩ := d j i hj hi h
    exact ⟨a.symm, c.symm, b.symm, e.symm⟩
theorem Inv.set (I : Inv Γ F α st h) {n : Nat} {p : SA} {a : Addr} {ao : AO} (hp : α[n]? = some p) (ha : a = p.1 ∨ a = p.2) (hs : Heap.SameBut a h h') (hx : ∃ o, h'.get? a = some o) (r : AOR Γ F α h' p ao) : Inv Γ F α (st.set n ao) h' ∧ ExtE F α h F α h' := by
  have hm : a ∈ sAddrs α := mem_sAddrs.mpr ⟨p, List.mem_of_getElem? hp, ha⟩
  have ag : ∀ b o', F b = some o' → h'.get? b = some o' := fun b o' e => (hs.2 b (fun e' => by subst e'; rw [I.nof _ hm] at e; cases e)).trans (I.agree b o' e)
  have low : ∀ b o, h.get? b = some o → ∃ o', h'.get? b = some o' := fun b o e => by
    by_cases hb : b = a
    · subst hb; exact hx
    · exact ⟨o, (hs.2 b hb).trans e⟩
  refine ⟨⟨ag, I.base, by simp [I.len], fun i q x hq hx => ?_, I.nof, fun b hb => let ⟨o, e⟩ := I.low b hb; low b o e, I.disj⟩, ⟨.refl F, ⟨[], by simp, by simp⟩, fun b o e hbm _ => ⟨(hs.2 b (fun e => by subst e; exact hbm hm)).trans e, rfl⟩, low⟩⟩
  by_cases hi : n = i
  · subst hi
    rw [hp] at hq; cases hq
    have hlt : n < st.length := by rw [← I.len]; exact (List.getElem?_eq_some_iff.mp hp).1
    rw [List.getElem?_set_self hlt] at hx
    cases hx
    exact r
  · rw [List.getElem?_set_ne hi] at hx
    obtain ⟨d1, d2, d3, d4⟩ := I.disj.at hp hq hi
    have e1 : h'.get? q.1 = h.get? q.1 := hs.2 _ (by rcases ha with rfl | rfl; exact d1.symm; exact d3.symm)
    have e2 : h'.get? q.2 = h.get? q.2 := hs.2 _ (by rcases ha with rfl | rfl; exact d2.symm; exact d4.symm)
    have := AOR.mono Γ (β := []) (.refl F) ag (fun _ e => e1.trans e) (fun _ e => e2.trans e) (I.rep i q x hq hx)
    rwa [List.append_nil] at this
theorem Inv.obj (I : Inv Γ F α st h) {n : Nat} {ao : AO} (ho : st[n]? = some ao) {v : Value} (hv : VR F α (.ob n) v) : ∃ p, α[n]? = some p ∧ v = .ref p.1 ∧ AOR Γ F α h p ao := by
  obtain ⟨p, hp, rfl⟩ := hv
  exact ⟨p, hp, rfl, I.rep n p ao hp ho⟩
end
section
variable (Γ : Wd)
noncomputable def PostE (F : Fz) (α : List SA) (s : Shared) (Q : AV → List AO → Prop) (v : Value) (s' : Shared) : Prop :=
  ∃ F' α' st' av tk, s' = { s with heap := s'.heap, toks := tk } ∧ ExtE F α s.heap F' α' s'.heap ∧ Inv Γ F' α' st' s'.heap ∧ VR F' α' av v ∧ Q av st'
variable {Γ}
theorem PostE.here {F : Fz} {α : List SA} {st : List AO} {s : Shared} {Q : AV → List AO → Prop} {v : Value} {av : AV} {tk : Nat} (I : Inv Γ F α st s.heap) (r : VR F α av v) (q : Q av st) : PostE Γ F α s Q v { s with toks := tk } :=
  ⟨F, α, st, av, tk, rfl, .refl _ _ _, I, r, q⟩
theorem PostE.here' {F : Fz} {α : List SA} {st : List AO} {s : Shared} {Q : AV → List AO → Prop} {v : Value} {av : AV} (I : Inv Γ F α st s.heap) (r : VR F α av v) (q : Q av st) : PostE Γ F α s Q v s :=
  ⟨F, α, st, av, s.toks, rfl, .refl _ _ _, I, r, q⟩
theorem PostE.after {F F₁ : Fz} {α α₁ : List SA} {s s₁ : Shared} {Q : AV → List AO → Prop} {v : Value} {s' : Shared} (hs : ∃ tk, s₁ = { s with heap := s₁.heap, toks := tk }) (x : ExtE F α s.heap F₁ α₁ s₁.heap) (p : PostE Γ F₁ α₁ s₁ Q v s') : PostE Γ F α s Q v s' := by
  obtain ⟨F', α', st', av, tk, e, y, I, r, q⟩ := p
  obtain ⟨tk₁, e₁⟩ := hs
  refine ⟨F', α', st', av, tk, ?_, x.trans y, I, r, q⟩
  rw [e, e₁]
end
end Mn
end
section
open PySem PySem.W PyProof.Rows PySem.SeqAt
namespace Mn
theorem listAt.isList {h : Heap} {a : Addr} {vs : List Value} (x : listAt h a vs) : h.IsList a vs.toArray := let ⟨n, e⟩ := x; ⟨_, e, rfl, n, rfl⟩
section
variable {prog : Program} {w : World} {A : Around} {E : Value → Shared → Prop} {s : Shared} {F : Fz}
noncomputable def Agree (F : Fz) (h : Heap) : Prop := ∀ a o, F a = some o → h.get? a = some o
theorem DR.tupAt {l : List D} {v : Value} (hA : Agree F s.heap) (r : DR F (.tup l) v) : ∃ a vs, v = .ref a ∧ s.heap.IsTuple a (List.toArray vs) ∧ DRs F l vs := by
  cases r with
  | @tup _ a o vs n h1 h2 h3 h4 => exact ⟨a, vs, rfl, ⟨o, hA _ _ h1, h2, n, h3⟩, h4⟩
theorem DR.lstAt {l : List D} {v : Value} (hA : Agree F s.heap) (r : DR F (.lst l) v) : ∃ a vs, v = .ref a ∧ s.heap.IsList a (List.toArray vs) ∧ DRs F l vs := by
  cases r with
  | @lst _ a o vs n h1 h2 h3 h4 => exact ⟨a, vs, rfl, ⟨o, hA _ _ h1, h2, n, h3⟩, h4⟩
theorem isEmpty_of {l : List D} {vs : List Value} (r : DRs F l vs) : (vs.toArray).isEmpty = l.isEmpty := by
  have := r.length
  cases l <;> cases vs <;> simp_all
theorem truthy_T {l : List D} {vs : List Value} {a : Addr} {Q : Bool → Shared → Prop} (ht : s.heap.IsTuple a vs.toArray) (q : DRs F l vs) (hl : l.length ≤ big) (h : ∀ tk, Q (!l.isEmpty) { s with toks := tk }) : wpAny (model prog w) A (truthy (.ref a)) Q E s := by
  refine truthy_tuple ht ?_ ?_
  · have := q.length; rw [List.size_toArray, ← this]; unfold big at hl; omega
  · rw [isEmpty_of q]; exact h _
theorem truthy_L {l : List D} {a : Addr} {vs : List Value} {Q : Bool → Shared → Prop} (ht : s.heap.IsList a vs.toArray) (q : DRs F l vs) (hl : l.length ≤ big) (h : ∀ tk, Q (!l.isEmpty) { s with toks := tk }) : wpAny (model prog w) A (truthy (.ref a)) Q E s := by
  refine wpAny_truthy_list ht ?_ ?_
  · have := q.length; rw [List.size_toArray, ← this]; unfold big at hl; omega
  · rw [isEmpty_of q]; exact h _
theorem truthy_D {st : List AO} {x : D} {v : Value} {b : Bool} {Q : Bool → Shared → Prop} (hA : Agree F s.heap) (r : DR F x v) (e : TrR st (.d x) b) (h : ∀ tk, Q b { s with toks := tk }) : wpAny (model prog w) A (truthy v) Q E s := by
  cases e with
  | non => cases r; exact truthy_none (h s.toks)
  | boo c => cases r; exact wpAny_truthy_bool (h s.toks)
  | int i => cases r; exact truthy_int (h s.toks)
  | @str t hl =>
    cases r
    have hs : (⟨t.toArray⟩ : Str).length = t.length := List.size_toArray ..
    refine P.truthy_str ?_ ?_
    · rw [hs]; unfold big at hl; omega
    · rw [hs]
      have : ((t.length : Int) != 0) = !t.isEmpty := by cases t <;> rfl
      rw [this]; exact h _
  | tup hl =>
    obtain ⟨a, vs, rfl, ht, q⟩ := r.tupAt (s := s) hA
    exact truthy_T ht q hl h
  | lst hl =>
    obtain ⟨a, vs, rfl, ht, q⟩ := r.lstAt (s := s) hA
    exact truthy_L ht q hl h
theorem str_key (a b : List Nat) : ((⟨a.toArray⟩ : Str) == ⟨b.toArray⟩) = (a == b) := by
  rw [Bool.eq_iff_iff]
  simp [Str.mk.injEq]
theorem eq_flat {x y : D} {v u : Value} {b : Bool} (hA : Agree F s.heap) (hu : A.units < cLine) (e : FE x y b) (hx : DR F x v) (hy : DR F y u) : EqAt A s v u b := by
  cases e with
  | nn => cases hx; cases hy; exact EqAt.same _
  | bb => cases hx; cases hy; exact EqAt.bool_bool _ _
  | ii => cases hx; cases hy; exact EqAt.int_int _ _ _ _
  | ss => cases hx; cases hy; rw [← str_key]; exact EqAt.str_str _ _ _ _
  | ni => cases hx; cases hy; exact EqAt.none_int _ _
  | ns => cases hx; cases hy; exact EqAt.none_str _ _
  | nt => cases hx; obtain ⟨a, vs, rfl, ht, q⟩ := hy.tupAt (s := s) hA; exact EqAt.none_tuple ht hu
  | in_ => cases hx; cases hy; exact EqAt.int_none _ _
  | sn => cases hx; cases hy; exact EqAt.str_none _ _
  | tn => cases hy; obtain ⟨a, vs, rfl, ht, q⟩ := hx.tupAt (s := s) hA; exact EqAt.tuple_none ht hu
  | is_ => cases hx; cases hy; exact EqAt.int_str _ _ _ _
  | si => cases hx; cases hy; exact EqAt.str_int _ _ _ _
  | it => cases hx; obtain ⟨a, vs, rfl, ht, q⟩ := hy.tupAt (s := s) hA; exact EqAt.int_tuple _ _ ht hu
  | ti => cases hy; obtain ⟨a, vs, rfl, ht, q⟩ := hx.tupAt (s := s) hA; exact EqAt.tuple_int _ _ ht hu
theorem eq_items {l m : List D} {b : Bool} (hA : Agree F s.heap) (hu : A.units < cLine) (e : LE1 l m b) : ∀ {vs us : List Value}, DRs F l vs → DRs F m us →
    ∃ e : Nat → Bool, (∀ j (h1 : j < vs.length) (h2 : j < us.length), EqAt A s vs[j] us[j] (e j)) ∧ ((List.range (min vs.length us.length)).all e && vs.length == us.length) = b := by
  induction e with
  | nn => intro vs us p q; cases p; cases q; exact ⟨fun _ => true, fun j h1 => absurd h1 (Nat.not_lt_zero _), rfl⟩
  | nc => intro vs us p q; cases p; cases q; exact ⟨fun _ => true, fun j h1 => absurd h1 (Nat.not_lt_zero _), by rw [List.length_nil, Nat.zero_min]; rfl⟩
  | cn => intro vs us p q; cases p; cases q; exact ⟨fun _ => true, fun j _ h2 => absurd h2 (Nat.not_lt_zero _), by rw [List.length_nil, Nat.min_zero]; rfl⟩
  | @cc _ _ _ _ b1 _ h r ih =>
    intro vs us p q
    cases p with | cons hx hl => cases q with | cons hy hm =>
    obtain ⟨g, hg, hb⟩ := ih hl hm
    refine ⟨fun j => match j with | 0 => b1 | j + 1 => g j, fun j h1 h2 => ?_, ?_⟩
    · cases j with
      | zero => exact eq_flat hA hu h hx hy
      | succ j => exact hg j (Nat.lt_of_succ_lt_succ h1) (Nat.lt_of_succ_lt_succ h2)
    · rw [← hb]
      simp only [List.length_cons, Nat.add_min_add_right, List.range_succ_eq_map, List.all_cons, List.all_map, Bool.and_assoc]
      congr 1
      congr 1
      rw [Bool.eq_iff_iff]; simp
theorem eq_tup {x y : D} {v u : Value} {b : Bool} (hA : Agree F s.heap) (hu : A.units + 1 < cLine) (e : TE x y b) (hx : DR F x v) (hy : DR F y u) : RcAt A s v u b := by
  have hu' : A.units < cLine := lin hu
  cases e with
  | flat e =>
    cases e with
    | nn => cases hx; cases hy; exact RcAt.none_none
    | bb => cases hx; cases hy; exact RcAt.bool_bool _ _
    | ii => cases hx; cases hy; exact RcAt.int_int _ _ _ _
    | ss => cases hx; cases hy; rw [← str_key]; exact RcAt.str_str _ _ _ _
    | ni => cases hx; cases hy; exact RcAt.none_int _ _
    | ns => cases hx; cases hy; exact RcAt.none_str _ _
    | nt => cases hx; obtain ⟨a, vs, rfl, ht, q⟩ := hy.tupAt (s := s) hA; exact RcAt.none_tuple ht hu'
    | in_ => cases hx; cases hy; exact RcAt.int_none _ _
    | sn => cases hx; cases hy; exact RcAt.str_none _ _
    | tn => cases hy; obtain ⟨a, vs, rfl, ht, q⟩ := hx.tupAt (s := s) hA; exact RcAt.tuple_none ht hu'
    | is_ => cases hx; cases hy; exact RcAt.int_str _ _ _ _
    | si => cases hx; cases hy; exact RcAt.str_int _ _ _ _
    | it => cases hx; obtain ⟨a, vs, rfl, ht, q⟩ := hy.tupAt (s := s) hA; exact RcAt.int_tuple _ _ ht hu'
    | ti => cases hy; obtain ⟨a, vs, rfl, ht, q⟩ := hx.tupAt (s := s) hA; exact RcAt.tuple_int _ _ ht hu'
  | tup e =>
    obtain ⟨a, vs, rfl, hl, q⟩ := hx.tupAt (s := s) hA
    obtain ⟨c, us, rfl, hm, q'⟩ := hy.tupAt (s := s) hA
    obtain ⟨g, hg, hb⟩ := eq_items (A := A.in1) (s := s) hA hu e q q'
    subst hb
    exact RcAt.tuples (A := A) hl hm hu' (e := g) hg
theorem ne_tup {x y : D} {v u : Value} {b : Bool} (hA : Agree F s.heap) (hu : A.units + 1 < cLine) (e : TE x y b) (hx : DR F x v) (hy : DR F y u) : RcNeAt A s v u (!b) := by
  have hu' : A.units < cLine := lin hu
  cases e with
  | flat e =>
    cases e with
    | nn => cases hx; cases hy; exact RcNeAt.none_none
    | bb => cases hx; cases hy; exact RcNeAt.bool_bool _ _
    | ii => cases hx; cases hy; exact RcNeAt.int_int _ _ _ _
    | ss => cases hx; cases hy; rw [← str_key]; exact RcNeAt.str_str _ _ _ _
    | ni => cases hx; cases hy; exact RcNeAt.none_int _ _
    | ns => cases hx; cases hy; exact RcNeAt.none_str _ _
    | nt => cases hx; obtain ⟨a, vs, rfl, ht, q⟩ := hy.tupAt (s := s) hA; exact RcNeAt.none_tuple ht hu'
    | in_ => cases hx; cases hy; exact RcNeAt.int_none _ _
    | sn => cases hx; cases hy; exact RcNeAt.str_none _ _
    | tn => cases hy; obtain ⟨a, vs, rfl, ht, q⟩ := hx.tupAt (s := s) hA; exact RcNeAt.tuple_none ht hu'
    | is_ => cases hx; cases hy; exact RcNeAt.int_str _ _ _ _
    | si => cases hx; cases hy; exact RcNeAt.str_int _ _ _ _
    | it => cases hx; obtain ⟨a, vs, rfl, ht, q⟩ := hy.tupAt (s := s) hA; exact RcNeAt.int_tuple _ _ ht hu'
    | ti => cases hy; obtain ⟨a, vs, rfl, ht, q⟩ := hx.tupAt (s := s) hA; exact RcNeAt.tuple_int _ _ ht hu'
  | tup e =>
    obtain ⟨a, vs, rfl, hl, q⟩ := hx.tupAt (s := s) hA
    obtain ⟨c, us, rfl, hm, q'⟩ := hy.tupAt (s := s) hA
    obtain ⟨g, hg, hb⟩ := eq_items (A := A.in1) (s := s) hA hu e q q'
    subst hb
    exact RcNeAt.tuples (A := A) hl hm hu' (e := g) hg
end
end Mn
end
section
open PySem PySem.W PyProof.Rows PySem.SeqAt
namespace Mn
section
variable {Γ : Wd} {A : Around} {E : Value → Shared → Prop} {s : Shared} {F : Fz} {α : List SA} {st : List AO}
theorem VR.dd {x : D} {v : Value} (r : VR F α (.d x) v) : DR F x v := r
theorem ints_are {k : List Int} : ∀ {vs : List Value}, DRs F (k.map .int) vs → ItemsAre (intKind Γ.prog Γ.w) k vs := by
  induction k with
  | nil => intro vs h; cases h; exact .nil
  | cons i k ih => intro vs h; cases h with | cons x y => cases x; exact .cons (intKind_is _ _ _ _) (ih y)
theorem isKey_of {k : List Int} {v : Value} (hA : Agree F s.heap) (r : DR F (.tup (k.map .int)) v) : ∃ a, v = .ref a ∧ IsTupleKey (intKind Γ.prog Γ.w) s.heap k a := by
  cases r with
  | @tup _ a o vs n h1 h2 h3 h4 => exact ⟨a, rfl, o, vs.toArray, n, hA _ _ h1, h2, h3, ints_are h4⟩
theorem find_KV {κ κ' : Type} [DecidableEq κ] [DecidableEq κ'] {f : κ → κ'} (hf : ∀ a b, f a = f b → a = b) (k : κ) {es : List (κ × D)} {kvs : List (κ' × Value)} (h : KV F f es kvs) :
    (match aget es k with | none => valueAt kvs (f k) = none | some d => ∃ v, valueAt kvs (f k) = some v ∧ DR F d v) := by
  induction h with
  | nil => rfl
  | @cons k' _ _ _ _ a b ih =>
    unfold aget valueAt
    rw [List.find?_cons]
    by_cases h : k' = k
    · subst h
      rw [if_pos rfl, decide_eq_true rfl]
      exact ⟨_, rfl, a⟩
    · rw [if_neg h, decide_eq_false fun e => h (hf _ _ e)]
      exact ih
theorem find_KVH (k : List Int) {es : List (List Int × D)} {xs : List (List Int × Addr × Value)} (h : KVH F es xs) :
    (match aget es k with | none => (atKey xs k) = none | some d => ∃ p, atKey xs k = some p ∧ DR F d p.2) := by
  induction h with
  | nil => rfl
  | cons x a b ih =>
    rename_i k' _ _ _ _ _
    unfold aget atKey
    rw [List.find?_cons]
    by_cases h : k' = k
    · subst h
      rw [if_pos rfl, decide_eq_true rfl]
      exact ⟨_, rfl, a⟩
    · rw [if_neg h, decide_eq_false h]
      exact ih
theorem empty_dictOf {K : Type} [DecidableEq K] (knd : KeyKind Γ.prog Γ.w K) {h : Heap} {a : Addr} {n : Nat} (e : h.get? a = some { cls := .type "dict", data := .dict #[] n }) : h.DictOf knd a [] :=
  ⟨_, #[], n, e, ⟨rfl, rfl, rfl⟩, rfl, fun _ he => by simp at he, .nil, List.nodup_nil⟩
theorem empty_dictOfH {h : Heap} {a : Addr} {n : Nat} (e : h.get? a = some { cls := .type "dict", data := .dict #[] n }) : h.DictOfH (tupleKind (intKind Γ.prog Γ.w)) a [] :=
  ⟨_, #[], n, e, ⟨rfl, rfl, rfl⟩, rfl, rfl, fun _ hx => by simp at hx, List.nodup_nil⟩
inductive DictLook (Γ : Wd) (F : Fz) (s : Shared) (d : Addr) (key : Value) (r : Option D) : Prop
  | val {K : Type} [DecidableEq K] (knd : KeyKind Γ.prog Γ.w K) (k : K) (kvs : List (K × Value)) : knd.is k key = true → s.heap.DictOf knd d kvs → (match r with | none => valueAt kvs k = none | some x => ∃ v, valueAt kvs k = some v ∧ DR F x v) → DictLook Γ F s d key r
  | tup (k : List Int) (a : Addr) (xs : List (List Int × Addr × Value)) : key = .ref a → IsTupleKey (intKind Γ.prog Γ.w) s.heap k a → s.heap.DictOfH (tupleKind (intKind Γ.prog Γ.w)) d xs → (match r with | none => atKey xs k = none | some x => ∃ p, atKey xs k = some p ∧ DR F x p.2) → DictLook Γ F s d key r
theorem dict_look {p : SA} {o : AO} {x : D} {key : Value} {r : Option D} (hA : Agree F s.heap) (e : DG o x r) (h : AOR Γ F α s.heap p o) (hk : DR F x key) : (p.1 == sysModules) = false ∧ DictLook Γ F s p.1 key r := by
  cases e with
  | s0 k => obtain ⟨_, m, n, ho⟩ := h; cases hk; exact ⟨m, .val (strKind Γ.prog Γ.w) (sKey k) [] (strKind_is _ _ _ _) (empty_dictOf _ ho) rfl⟩
  | i0 k => obtain ⟨_, m, n, ho⟩ := h; cases hk; exact ⟨m, .val (intKind Γ.prog Γ.w) k [] (intKind_is _ _ _ _) (empty_dictOf _ ho) rfl⟩
  | t0 k =>
    obtain ⟨_, m, n, ho⟩ := h
    obtain ⟨a, rfl, hk'⟩ := isKey_of (Γ := Γ) (s := s) hA hk
    exact ⟨m, .tup k a [] rfl hk' (empty_dictOfH ho) rfl⟩
  | s es k => obtain ⟨_, m, kvs, hd, q⟩ := h; cases hk; exact ⟨m, .val (strKind Γ.prog Γ.w) (sKey k) kvs (strKind_is _ _ _ _) hd (find_KV (fun _ _ => sKey_inj) k q)⟩
  | i es k => obtain ⟨_, m, kvs, hd, q⟩ := h; cases hk; exact ⟨m, .val (intKind Γ.prog Γ.w) k kvs (intKind_is _ _ _ _) hd (find_KV (fun _ _ e => e) k q)⟩
  | t es k =>
    obtain ⟨_, m, xs, hd, q⟩ := h
    obtain ⟨a, rfl, hk'⟩ := isKey_of (Γ := Γ) (s := s) hA hk
    exact ⟨m, .tup k a xs rfl hk' hd (find_KVH k q)⟩
theorem in_dict {d : Addr} {key : Value} {r : Option D} {Q : Value → Shared → Prop} (hu : A.units + 1 < cLine) (hd : (d == sysModules) = false) (L : DictLook Γ F s d key r) (h : ∀ tk, Q (.bool r.isSome) { s with toks := tk }) : wpAny (model Γ.prog Γ.w) A (compareOp .In key (.ref d)) Q E s := by
  cases L with
  | val knd k kvs hk hm hr =>
    refine wpAny_in_of hk hd hm.mapOf ?_
    cases r with
    | none => rw [hr]; exact h _
    | some x => obtain ⟨v, e, _⟩ := hr; rw [e]; exact h _
  | tup k a xs e hk hm hr =>
    subst e
    refine wpAny_in_heap (knd := tupleKind (intKind Γ.prog Γ.w)) hu hk hd hm ?_
    cases r with
    | none => rw [hr]; exact h _
    | some x => obtain ⟨v, e, _⟩ := hr; rw [e]; exact h _
mutual
theorem DR.inj {x : D} {v : Value} (h : DR F x v) : ∀ {y : D}, DR F y v → x = y := by
  cases h with
  | non => intro y g; cases g; rfl
  | boo => intro y g; cases g; rfl
  | int => intro y g; cases g; rfl
  | str s t => intro y g; generalize e : (Value.str ⟨s.toArray⟩ t) = v at g; cases g <;> cases e; rfl
  | tup h1 h2 h3 h4 =>
    intro y g
    cases g with
    | tup g1 g2 g3 g4 =>
      rw [h1] at g1; cases g1
      rw [h3] at g3
      injection g3 with e1 e2
      cases (congrArg Array.toList e1 : _ = _)
      rw [DRs.inj h4 g4]
    | lst g1 g2 g3 g4 =>
      rw [h1] at g1; cases g1
      rw [h2] at g2; exact absurd g2 (by decide)
  | lst h1 h2 h3 h4 =>
    intro y g
    cases g with
    | tup g1 g2 g3 g4 =>
      rw [h1] at g1; cases g1
      rw [h2] at g2; exact absurd g2 (by decide)
    | lst g1 g2 g3 g4 =>
      rw [h1] at g1; cases g1
      rw [h3] at g3
      injection g3 with e1 e2
      cases (congrArg Array.toList e1 : _ = _)
      rw [DRs.inj h4 g4]
theorem DRs.inj {l : List D} {vs : List Value} (h : DRs F l vs) : ∀ {m : List D}, DRs F m vs → l = m := by
  cases h with
  | nil => intro m g; cases g; rfl
  | cons a b => intro m g; cases g with | cons c d => rw [DR.inj a c, DRs.inj b d]
end
theorem FE.self {x y : D} {b : Bool} (e : FE x y b) (h : x = y) : b = true := by
  cases e with
  | nn => rfl
  | bb => cases h; exact beq_self_eq_true _
  | ii => cases h; exact beq_self_eq_true _
  | ss => cases h; exact beq_self_eq_true _
  | _ => cases h
theorem LE1.self {l m : List D} {b : Bool} (e : LE1 l m b) : l = m → b = true := by
  induction e with
  | nn => intro _; rfl
  | nc => intro h; cases h
  | cn => intro h; cases h
  | cc h r ih =>
    intro e
    injection e with e1 e2
    rw [h.self e1, ih e2]; rfl
theorem eq_item {x y : D} {v u : Value} {b : Bool} (hA : Agree F s.heap) (hu : A.units + 1 < cLine) (e : TE x y b) (hx : DR F x v) (hy : DR F y u) : EqAt A s v u b := by
  have r := eq_tup (s := s) hA hu e hx hy
  cases e with
  | flat e => exact eq_flat hA (lin hu) e hx hy
  | tup e =>
    obtain ⟨a, vs, rfl, _, _⟩ := hx.tupAt (s := s) hA
    obtain ⟨c, us, rfl, _, _⟩ := hy.tupAt (s := s) hA
    by_cases hac : a = c
    · subst hac
      have := DR.inj hx hy
      injection this with h
      rw [e.self h]; exact EqAt.same _
    · exact EqAt.of_refs hac r
theorem in_items {x : D} {u : Value} (hA : Agree F s.heap) (hu : A.units + 1 < cLine) (hx : DR F x u) {l : List D} {b : Bool} (e : IE x l b) : ∀ {vs : List Value}, DRs F l vs →
    ∃ e : Value → Bool, (∀ y ∈ vs, EqAt A s y u (e y)) ∧ vs.any e = b := by
  induction e with
  | nil => intro vs h; cases h; exact ⟨fun _ => false, (fun y hy => nomatch hy), rfl⟩
  | @cons y l b1 b2 h1 r ih =>
    intro vs h
    cases h with | @cons _ v _ vs hy hl =>
    obtain ⟨g, hg, hb⟩ := ih hl
    have hv := eq_item (s := s) hA hu h1 hy hx
    refine ⟨fun z => if z = v then b1 || (g v && decide (v ∈ vs)) else g z, fun z hz => ?_, ?_⟩
    · dsimp only
      by_cases hzv : z = v
      · rw [if_pos hzv]
        subst hzv
        by_cases hm : z ∈ vs
        · rw [decide_eq_true hm, Bool.and_true]
          cases b1 with
          | true => exact hv
          | false => exact hg z hm
        · rw [decide_eq_false hm, Bool.and_false, Bool.or_false]; exact hv
      · rw [if_neg hzv]
        rcases List.mem_cons.mp hz with h | h
        · exact absurd h hzv
        · exact hg z h
    · rw [List.any_cons, if_pos rfl, ← hb, Bool.eq_iff_iff]
      simp only [Bool.or_eq_true, List.any_eq_true, Bool.and_eq_true, decide_eq_true_eq]
      constructor
      · rintro ((h | ⟨h, h'⟩) | ⟨z, hz, h⟩)
        · exact .inl h
        · exact .inr ⟨v, h', h⟩
        · by_cases hzv : z = v
          · rw [if_pos hzv, Bool.or_eq_true, Bool.and_eq_true] at h
            rcases h with h | h
            · exact .inl h
            · exact .inr ⟨z, hz, hzv ▸ h.1⟩
          · rw [if_neg hzv] at h; exact .inr ⟨z, hz, h⟩
      · rintro (h | ⟨z, hz, h⟩)
        · exact .inl (.inl h)
        · by_cases hzv : z = v
          · exact .inl (.inr ⟨hzv ▸ h, hzv ▸ hz⟩)
          · exact .inr ⟨z, hz, by rw [if_neg hzv]; exact h⟩
theorem cmp_D {op : CmpOp} {x y : D} {v u : Value} {b : Bool} {Q : Value → Shared → Prop} (hA : Agree F s.heap) (hu : A.units + 2 < cLine) (e : CD op x y b) (hx : DR F x v) (hy : DR F y u) (h : Q (.bool b) s) :
    wpAny (model Γ.prog Γ.w) A (compareOp op v u) Q E s := by
  have hu' : A.units + 1 < cLine := lin hu
  cases e with
  | lt => cases hx; cases hy; exact lt_int h
  | le => cases hx; cases hy; exact le_int h
  | gt => cases hx; cases hy; exact gt_int h
  | ge => cases hx; cases hy; exact ge_int h
  | eq e => exact eq_tup (s := s) hA hu' e hx hy _ _ _ _ h
  | ne e => exact ne_tup (s := s) hA hu' e hx hy _ _ _ _ h
  | is_ =>
    cases hy
    refine is_none ?_
    cases hx <;> exact h
  | isN =>
    cases hy
    refine isNot_none ?_
    cases hx <;> exact h
  | inT e =>
    obtain ⟨a, vs, rfl, ht, q⟩ := hy.tupAt (s := s) hA
    obtain ⟨g, hg, hb⟩ := in_items (A := A.in1) (s := s) hA hu hx e q
    refine in_tupleAt g ht (fun y hy => hg y (by simpa using hy)) ?_
    rw [List.any_toArray, hb]; exact h
  | inL e =>
    obtain ⟨a, vs, rfl, ht, q⟩ := hy.lstAt (s := s) hA
    obtain ⟨g, hg, hb⟩ := in_items (A := A.in1) (s := s) hA hu hx e q
    refine in_listAt g ht (fun y hy => hg y (by simpa using hy)) ?_
    rw [List.any_toArray, hb]; exact h
  | niL e =>
    obtain ⟨a, vs, rfl, ht, q⟩ := hy.lstAt (s := s) hA
    obtain ⟨g, hg, hb⟩ := in_items (A := A.in1) (s := s) hA hu hx e q
    refine notIn_listAt g ht (fun y hy => hg y (by simpa using hy)) ?_
    rw [List.any_toArray, hb]; exact h
  | inS c y =>
    cases hx; cases hy
    refine P.in_str ?_
    show Q (.bool (!(Builtin.Str.occurrences ⟨y.toArray⟩ ⟨#[c]⟩ 0 (Str.length ⟨y.toArray⟩) 1).isEmpty)) s
    rw [StrLaws.found_one]
    have : decide (c ∈ (⟨y.toArray⟩ : Str).cps.toList) = y.contains c := by
      rw [Bool.eq_iff_iff]; simp
    rw [this]; exact h
theorem cmp_A {op : CmpOp} {x y : AV} {v u : Value} {b : Bool} {Q : Value → Shared → Prop} (I : Inv Γ F α st s.heap) (hu : A.units + 2 < cLine) (e : CA st op x y b) (hx : VR F α x v) (hy : VR F α y u)
    (h : ∀ tk, Q (.bool b) { s with toks := tk }) : wpAny (model Γ.prog Γ.w) A (compareOp op v u) Q E s := by
  cases e with
  | d e => exact cmp_D I.agree hu e hx hy (h s.toks)
  | inD ho e =>
    obtain ⟨p, hp, rfl, hr⟩ := I.obj ho hy
    obtain ⟨m, L⟩ := dict_look (s := s) I.agree e hr hx
    exact in_dict (lin hu) m L h
  | is_ =>
    cases hy
    obtain ⟨p, _, rfl⟩ := hx
    exact is_none (h s.toks)
  | isN =>
    cases hy
    obtain ⟨p, _, rfl⟩ := hx
    exact isNot_none (h s.toks)
end
end Mn
end
section
open PySem PySem.W PyProof.Rows PySem.SeqAt
namespace Mn
section
variable {Γ : Wd} {A : Around} {E : Value → Shared → Prop} {s : Shared} {F : Fz} {α : List SA} {st : List AO} {Q : AV → List AO → Prop}
theorem VR.d_int (i : Int) (t : Tok) : VR F α (.d (.int i)) (.int i t) := DR.int i t
theorem VR.d_str (x : List Nat) (t : Tok) : VR F α (.d (.str x)) (.str ⟨x.toArray⟩ t) := DR.str x t
theorem VR.d_boo (b : Bool) : VR F α (.d (.boo b)) (.bool b) := DR.boo b
theorem VR.d_non : VR F α (.d .non) .none := DR.non
theorem str_app (x y : List Nat) : ((⟨x.toArray⟩ : Str) ++ ⟨y.toArray⟩) = ⟨(x ++ y).toArray⟩ := by
  show Str.append _ _ = _
  unfold Str.append
  simp
theorem str_len (x : List Nat) : (⟨x.toArray⟩ : Str).length = x.length := List.size_toArray ..
theorem post_made {o : Obj} {x : D} (I : Inv Γ F α st s.heap) (hf : o.isFreed = false) (r : DR (F.put s.heap.objs.size o) x (.ref s.heap.objs.size)) (q : Q (.d x) st) (tk : Nat) :
    PostE Γ F α s Q (.ref s.heap.objs.size) { s with heap := s.heap.push o, toks := tk } := by
  obtain ⟨J, X⟩ := I.freeze o hf
  exact ⟨_, α, st, .d x, tk, rfl, X, J, r, q⟩
theorem dr_tup_new {l : List D} {vs : List Value} (I : Inv Γ F α st s.heap) (q : DRs F l vs) : DR (F.put s.heap.objs.size { cls := .type "tuple", data := .seq vs.toArray }) (.tup l) (.ref s.heap.objs.size) :=
  .tup (n := 0) (Fz.put_self _ _ _) rfl rfl (q.mono (Fz.sub_put _ (I.fnone (get_size _ (Nat.le_refl _)))))
theorem dr_lst_new {l : List D} {vs : List Value} (I : Inv Γ F α st s.heap) (q : DRs F l vs) : DR (F.put s.heap.objs.size { cls := .type "list", data := .seq vs.toArray }) (.lst l) (.ref s.heap.objs.size) :=
  .lst (n := 0) (Fz.put_self _ _ _) rfl rfl (q.mono (Fz.sub_put _ (I.fnone (get_size _ (Nat.le_refl _)))))
theorem bin_A {o : BO} {x y r : AV} {v u : Value} (I : Inv Γ F α st s.heap) (e : BinR o x y r) (hx : VR F α x v) (hy : VR F α y u) (q : Q r st) :
    wpAny (model Γ.prog Γ.w) A (binaryOp o.op v u) (PostE Γ F α s Q) E s := by
  cases e with
  | add => cases hx; cases hy; exact PyProof.Rows.add_int (PostE.here I (VR.d_int _ _) q)
  | sub => cases hx; cases hy; exact PyProof.Rows.sub_int (PostE.here I (VR.d_int _ _) q)
  | mod h => cases hx; cases hy; exact PyProof.Rows.mod_int h (PostE.here I (VR.d_int _ _) q)
  | fdiv h => cases hx; cases hy; exact floordiv_int h.1 (PostE.here I (VR.d_int _ _) q) (.inl (PyProof.noPylong_small h.2))
  | pow =>
    cases hx; cases hy
    refine pow_int (by decide) (by decide +kernel) ?_
    rw [show (10 : Int) ^ (18 : Int).toNat = 1000000000000000000 by decide]
    exact PostE.here I (VR.d_int _ _) q
  | addS h =>
    cases hx; cases hy
    refine PyProof.Rows.add_str (fun t' tk => ?_) (by rw [str_len, str_len]; exact h)
    rw [str_app]
    exact PostE.here I (VR.d_str _ _) q
  | addL h =>
    obtain ⟨l, vs, rfl, hl, qx⟩ := hx.lstAt (s := s) I.agree
    obtain ⟨b, ws, rfl, hb, qy⟩ := hy.lstAt (s := s) I.agree
    obtain ⟨⟨cls, dd, data, sl⟩, ho, hc, n, hd⟩ := id hl
    obtain ⟨⟨cls2, dd2, data2, sl2⟩, ho2, hc2, n2, hd2⟩ := id hb
    cases hc; cases hd; cases hc2; cases hd2
    refine concat_meets ⟨_, ho, rfl⟩ ⟨_, ho2, rfl⟩ noFill_list_add seq_list_add PySem.F.slot_list_add PySem.F.entry_list_add (PySem.F.args_list_add_2 _ _) (list_addW l b vs.toArray ws.toArray n n2 dd dd2 sl sl2 (by rw [List.size_toArray, List.size_toArray, ← qx.length, ← qy.length]; exact h)) ⟨ho, ho2, ?_⟩
    rw [show vs.toArray ++ ws.toArray = (vs ++ ws).toArray from List.append_toArray ..]
    exact post_made I rfl (dr_lst_new I (qx.append qy)) q s.toks
theorem tail_str {value slice : PySem.Expr} {x : List Nat} {t : Tok} {k : Int} {u : Tok} {c : Nat} {Q : Value → Shared → Prop} (hk : -(2 ^ 62) ≤ k ∧ k < 2 ^ 62) (hc : (pyIdx k x.length).bind (x[·]?) = some c)
    (h : Q (.str ⟨[c].toArray⟩ s.toks) { s with toks := s.toks + 1 }) (hs : subscripted slice false (.str ⟨x.toArray⟩ t) (.int k u) = operate [.str ⟨x.toArray⟩ t, .int k u] (getItem (.str ⟨x.toArray⟩ t) (.int k u))) :
    wpAny (model Γ.prog Γ.w) A (subscriptTail value slice (.str ⟨x.toArray⟩ t) (.int k u)) Q E s := by
  refine tail_any (T := "str") (typeIs_str _ _ _) F.slot_str_getitem.lookup (P.getItem_str ?_ ?_ h) hs
  · rw [Bool.or_eq_false_iff, decide_eq_false_iff_not, decide_eq_false_iff_not]; omega
  · rw [str_len]
    unfold pyIdx at hc
    simpa using hc
theorem getItem_listK {l : Addr} {items : List Value} {k : Int} {t : Tok} {x : Value} {j : Nat} {Q : Value → Shared → Prop} (hl : s.heap.IsList l items.toArray) (hk : -(2 ^ 62) ≤ k ∧ k < 2 ^ 62) (hj : pyIdx k items.length = some j) (hx : items[j]? = some x) (h : Q x s) :
    wpAny (model Γ.prog Γ.w) A (getItem (.ref l) (.int k t)) Q E s := by
  unfold pyIdx seqIndex? at hj
  by_cases h0 : k < 0
  · simp only [if_pos h0] at hj
    split at hj
    · rename_i hc
      cases hj
      simp only [Bool.and_eq_true, decide_eq_true_eq] at hc
      refine wpAny_getItem_list_neg hl h0 (by rw [List.size_toArray]; omega) (by omega) ?_ h
      rw [List.size_toArray]; simpa using hx
    · cases hj
  · simp only [if_neg h0] at hj
    split at hj
    · rename_i hc
      cases hj
      exact wpAny_getItem_list hl (by omega) (by omega) (by simpa using hx) h
    · cases hj
theorem idx_A {value slice : PySem.Expr} {x y r : AV} {v u : Value} (I : Inv Γ F α st s.heap) (e : IdxR st x y r) (hx : VR F α x v) (hy : VR F α y u) (q : Q r st)
    (hs : ∀ o i, subscripted slice false o i = operate [o, i] (getItem o i)) : wpAny (model Γ.prog Γ.w) A (subscriptTail value slice v u) (PostE Γ F α s Q) E s := by
  have lst : ∀ {l : List D} {vs : List Value} {k : Int} {d : D}, idxL l k d → DRs F l vs → (-(2 ^ 62) ≤ k ∧ k < 2 ^ 62) ∧ ∃ j v, pyIdx k vs.length = some j ∧ vs[j]? = some v ∧ DR F d v := by
    intro l vs k d ⟨hk, e⟩ r
    obtain ⟨j, h1, h2⟩ := Option.bind_eq_some_iff.mp e
    obtain ⟨v, h3, h4⟩ := r.get j d h2
    exact ⟨by omega, j, v, by rw [← r.length]; exact h1, h3, h4⟩
  cases e with
  | tup e =>
    cases hy
    obtain ⟨a, vs, rfl, ht, qx⟩ := hx.tupAt (s := s) I.agree
    obtain ⟨hk, j, w, h1, h2, h3⟩ := lst e qx
    refine item_tupleT ht (by omega) (by omega) h1 h2 (PostE.here' (av := .d _) I h3 q) (hs _ _)
  | lst e =>
    cases hy
    obtain ⟨a, vs, rfl, ht, qx⟩ := hx.lstAt (s := s) I.agree
    obtain ⟨hk, j, w, h1, h2, h3⟩ := lst e qx
    exact tail_any ht.typeIs slot_list_getitem.lookup (getItem_listK ht hk h1 h2 (PostE.here' (av := .d _) I h3 q)) (hs _ _)
  | ob ho e =>
    cases hy
    obtain ⟨p, hp, rfl, _, vs, hl, qx⟩ := I.obj ho hx
    obtain ⟨hk, j, w, h1, h2, h3⟩ := lst e qx
    exact tail_any hl.isList.typeIs slot_list_getitem.lookup (getItem_listK hl.isList hk h1 h2 (PostE.here' (av := .d _) I h3 q)) (hs _ _)
  | str hk e => cases hx; cases hy; exact tail_str (by omega) e (PostE.here I (VR.d_str _ _) q) (hs _ _)
end
end Mn
end
section
open PySem PySem.W PyProof.Rows PySem.SeqAt
namespace Mn
theorem ofString_codes (x : String) : Str.ofString x = ⟨(codes x).toArray⟩ := by
  unfold codes
  cases h : Str.ofString x with
  | mk c => simp
section
variable {Γ : Wd} {A : Around} {E : Value → Shared → Prop} {s : Shared} {F : Fz} {α : List SA} {st : List AO} {Q : AV → List AO → Prop}
theorem vrs_nil {vs : List Value} (r : VRs F α [] vs) : vs = [] := by cases r; rfl
theorem vrs_one {x : AV} {vs : List Value} (r : VRs F α [x] vs) : ∃ v, vs = [v] ∧ VR F α x v := by
  cases r with | cons a b => cases b; exact ⟨_, rfl, a⟩
theorem vrs_two {x y : AV} {vs : List Value} (r : VRs F α [x, y] vs) : ∃ v u, vs = [v, u] ∧ VR F α x v ∧ VR F α y u := by
  cases r with | cons a b => cases b with | cons c d => cases d; exact ⟨_, _, rfl, a, c⟩
theorem post_keeps {h' : Heap} {tk : Nat} {v : Value} {av : AV} (I : Inv Γ F α st s.heap) (hk : ∀ b o, s.heap.get? b = some o → h'.get? b = some o) (r : VR F α av v) (q : Q av st) : PostE Γ F α s Q v { s with heap := h', toks := tk } :=
  ⟨F, α, st, av, tk, rfl, ext_keeps F α hk, I.keeps hk, r, q⟩
theorem len_L {l : List D} {a : Addr} {us : List Value} (I : Inv Γ F α st s.heap) (ht : s.heap.IsList a us.toArray) (qx : DRs F l us) (hl : l.length ≤ big) (q : Q (.d (.int l.length)) st) : wpAny (model Γ.prog Γ.w) A (call BI.len.val [.ref a]) (PostE Γ F α s Q) E s := by
  refine Calls.call_len_list ht (by rw [List.size_toArray, ← qx.length]; unfold big at hl; omega) ?_
  rw [List.size_toArray, ← qx.length]; exact PostE.here I (VR.d_int _ _) q
theorem bi_A {b : BI} {as : List AV} {r : AV} {vs : List Value} (hh : A.handled = none) (I : Inv Γ F α st s.heap) (e : BiR st b as r) (ha : VRs F α as vs) (q : Q r st) :
    wpAny (model Γ.prog Γ.w) A (call b.val vs) (PostE Γ F α s Q) E s := by
  cases e with
  | int =>
    obtain ⟨v, rfl, hv⟩ := vrs_one ha
    cases hv
    exact call_int_int (PostE.here' I (VR.d_int _ _) q)
  | lenS hl =>
    obtain ⟨v, rfl, hv⟩ := vrs_one ha
    cases hv
    refine P.len_str (by rw [str_len]; unfold big at hl; omega) ?_
    rw [str_len]; exact PostE.here I (VR.d_int _ _) q
  | lenL hl =>
    obtain ⟨v, rfl, hv⟩ := vrs_one ha
    obtain ⟨a, us, rfl, ht, qx⟩ := hv.lstAt (s := s) I.agree
    exact len_L I ht qx hl q
  | lenT hl =>
    obtain ⟨v, rfl, hv⟩ := vrs_one ha
    obtain ⟨a, us, rfl, ht, qx⟩ := hv.tupAt (s := s) I.agree
    refine len_tuple ht (by rw [List.size_toArray, ← qx.length]; unfold big at hl; omega) ?_
    rw [List.size_toArray, ← qx.length]; exact PostE.here I (VR.d_int _ _) q
  | lenO ho hl =>
    obtain ⟨v, rfl, hv⟩ := vrs_one ha
    obtain ⟨p, hp, rfl, _, us, ht, qx⟩ := I.obj ho hv
    exact len_L I ht.isList qx hl q
  | @chr n hl =>
    obtain ⟨v, rfl, hv⟩ := vrs_one ha
    cases hv
    refine P.chr_of_int ?_ (PostE.here I (VR.d_str [n.toNat] _) q)
    rw [Bool.or_eq_false_iff, decide_eq_false_iff_not, decide_eq_false_iff_not]; omega
  | ord =>
    obtain ⟨v, rfl, hv⟩ := vrs_one ha
    cases hv
    exact P.ord_of_char (PostE.here I (VR.d_int _ _) q)
  | @str n hl =>
    obtain ⟨v, rfl, hv⟩ := vrs_one ha
    cases hv
    refine P.str_of_int ?_ ?_
    · rcases Nat.eq_zero_or_pos n.natAbs with h0 | h0
      · rw [h0]; decide
      · refine (Nat.log2_lt (by omega)).mpr (Nat.lt_of_lt_of_le hl (by decide +kernel))
    · rw [ofString_codes]; exact PostE.here I (VR.d_str _ _) q
  | abs n =>
    obtain ⟨v, rfl, hv⟩ := vrs_one ha
    cases hv
    refine call_abs_int fun u tk => ?_
    have : (if n < 0 then -n else n) = (n.natAbs : Int) := by split <;> omega
    rw [this]; exact PostE.here I (VR.d_int _ _) q
  | min x y =>
    obtain ⟨v, u, rfl, hv, hu⟩ := vrs_two ha
    cases hv; cases hu
    refine min_two_ints hh fun h' tk hk => ?_
    refine post_keeps I hk ?_ q
    split <;> exact VR.d_int _ _
  | @tuple l hl =>
    obtain ⟨v, rfl, hv⟩ := vrs_one ha
    obtain ⟨a, us, rfl, ht, qx⟩ := hv.lstAt (s := s) I.agree
    refine call_tuple_list ht (fun h' hk => ?_) (by rw [List.size_toArray, ← qx.length]; exact hl)
    have J := I.keeps hk
    have p := post_made (Q := Q) (s := { s with heap := h' }) (x := .tup l) (o := { cls := .type "tuple", data := .seq us.toArray }) J rfl (dr_tup_new (s := { s with heap := h' }) J qx) q s.toks
    exact PostE.after (s₁ := { s with heap := h' }) ⟨s.toks, rfl⟩ (ext_keeps F α hk) p
theorem upd_list {p : SA} {vs ws : List Value} {l : List D} {n : Nat} {f : Array Value → Array Value} (I : Inv Γ F α st s.heap) {i : Nat} (hp : α[i]? = some p) (hpp : p.1 = p.2)
    (hl : s.heap.get? p.1 = some { cls := .type "list", data := .seq vs.toArray n }) (hf : f vs.toArray = ws.toArray) (qx : DRs F l ws) :
    Inv Γ F α (st.set i (.lst l)) (s.heap.update p.1 (Obj.mapSeq f)) ∧ ExtE F α s.heap F α (s.heap.update p.1 (Obj.mapSeq f)) := by
  have e : ∃ n', (Obj.mapSeq f { cls := .type "list", data := .seq vs.toArray n }) = { cls := .type "list", data := .seq ws.toArray n' } := by
    rw [← hf]; exact ⟨_, rfl⟩
  obtain ⟨n', e⟩ := e
  have g : (s.heap.update p.1 (Obj.mapSeq f)).get? p.1 = some { cls := .type "list", data := .seq ws.toArray n' } := by
    rw [Heap.get?_update_self _ hl (by rw [e]; rfl), e]
  exact I.set hp (.inl rfl) (Heap.SameBut.update _ _ _) ⟨_, g⟩ ⟨hpp, ws, ⟨n', g⟩, qx⟩
theorem erase_last (vs : List Value) : (vs.toArray).eraseIdxIfInBounds (vs.toArray.size - 1) = vs.dropLast.toArray := by
  rcases List.eq_nil_or_concat vs with rfl | ⟨l, a, rfl⟩
  · rfl
  · simp [List.eraseIdxIfInBounds_toArray, List.eraseIdx_append_of_length_le]
theorem DRs.getLast {l : List D} {vs : List Value} (q : DRs F l vs) {x : D} (e : l.getLast? = some x) : ∃ v, vs[vs.length - 1]? = some v ∧ DR F x v ∧ DRs F l.dropLast vs.dropLast := by
  rw [List.getLast?_eq_getElem?] at e
  obtain ⟨v, h1, h2⟩ := q.get _ _ e
  refine ⟨v, by rw [← q.length]; exact h1, h2, ?_⟩
  rw [List.dropLast_eq_take, List.dropLast_eq_take, ← q.length]
  exact q.take _
theorem strs_are {ss : List (List Nat)} : ∀ {vs : List Value}, DRs F (ss.map .str) vs → StrsAre vs (ss.map sKey) := by
  induction ss with
  | nil => intro vs q; cases q; exact .nil
  | cons x l ih => intro vs q; cases q with | cons h1 h2 => cases h1; exact .cons _ _ (ih h2)
theorem join_key (sep : List Nat) : ∀ ss : List (List Nat), Str.join (sKey sep) (ss.map sKey) = sKey (joinN sep ss)
  | [] => rfl
  | [x] => rfl
  | x :: y :: r => by
    show sKey x ++ sKey sep ++ Str.join (sKey sep) ((y :: r).map sKey) = _
    rw [join_key sep (y :: r)]
    show (sKey x ++ sKey sep) ++ sKey _ = sKey (x ++ sep ++ _)
    unfold sKey
    rw [str_app, str_app]
theorem get_A {n : Nat} {o : AO} {k : D} {r : Option D} {v u : Value} {dd : D} {rest : List Value} (I : Inv Γ F α st s.heap) (hu : A.units + 1 < cLine) (ho : st[n]? = some o) (e1 : DG o k r) (hv : VR F α (.ob n) v) (hx : VR F α (.d k) u)
    (hr : (rest = [] ∧ dd = .non) ∨ ∃ u', rest = [u'] ∧ VR F α (.d dd) u') (q : Q (.d (r.getD dd)) st) :
    wpAny (model Γ.prog Γ.w) A (call (.builtin "dict.get") (v :: u :: rest)) (PostE Γ F α s Q) E s := by
  obtain ⟨p, hp, rfl, hro⟩ := I.obj ho hv
  obtain ⟨hm, L⟩ := dict_look (s := s) I.agree e1 hro hx
  rcases hr with ⟨rfl, rfl⟩ | ⟨u', rfl, hy⟩
  · cases L with
    | val knd kk kvs hk hd hq =>
      refine call_meetsIn PySem.F.slot_dict_get hd.typeIs PySem.F.entry_dict_get (PySem.F.args_dict_get_2 _ _) (meets_dict_get knd p.1 hk hm) ⟨_, hd.mapOf, ?_⟩
      cases r with
      | none => rw [hq]; exact PostE.here (av := .d .non) I DR.non q
      | some d => obtain ⟨z, hz, hd'⟩ := hq; rw [hz]; exact PostE.here (av := .d d) I hd' q
    | tup kk b xs e hk hd hq =>
      subst e
      refine call_meetsIn PySem.F.slot_dict_get hd.typeIs PySem.F.entry_dict_get (PySem.F.args_dict_get_2 _ _) (meetsH_dict_get (tupleKind (intKind Γ.prog Γ.w)) p.1 b hm) ⟨hu, kk, xs, hk, hd, ?_⟩
      cases r with
      | none => rw [hq]; exact PostE.here (av := .d .non) I DR.non q
      | some d => obtain ⟨z, hz, hd'⟩ := hq; rw [hz]; exact PostE.here (av := .d d) I hd' q
  · cases L with
    | val knd kk kvs hk hd hq =>
      refine call_meetsIn PySem.F.slot_dict_get hd.typeIs PySem.F.entry_dict_get (PySem.F.args_dict_get_3 _ _ _) (meets_dict_get_default knd p.1 hk hm u') ⟨_, hd.mapOf, ?_⟩
      cases r with
      | none => rw [hq]; exact PostE.here I hy q
      | some d => obtain ⟨z, hz, hd'⟩ := hq; rw [hz]; exact PostE.here (av := .d d) I hd' q
    | tup kk b xs e hk hd hq =>
      subst e
      refine call_meetsIn PySem.F.slot_dict_get hd.typeIs PySem.F.entry_dict_get (PySem.F.args_dict_get_3 _ _ _) (meetsH_dict_get_default (tupleKind (intKind Γ.prog Γ.w)) p.1 b hm u') ⟨hu, kk, xs, hk, hd, ?_⟩
      cases r with
      | none => rw [hq]; exact PostE.here I hy q
      | some d => obtain ⟨z, hz, hd'⟩ := hq; rw [hz]; exact PostE.here (av := .d d) I hd' q
theorem join_A {a : Addr} {ss : List (List Nat)} {us : List Value} {sep : List Nat} {t : Nat} (I : Inv Γ F α st s.heap) (hl : (ss.map (·.length)).sum + ss.length * sep.length ≤ 2 ^ 24) (hg : s.heap.IsList a us.toArray) (qx : DRs F (ss.map .str) us) (q : Q (.d (.str (joinN sep ss))) st) :
    wpAny (model Γ.prog Γ.w) A (call (.builtin "str.join") [.str ⟨sep.toArray⟩ t, .ref a]) (PostE Γ F α s Q) E s := by
  refine join_list hg (ys := ss.map sKey) (strs_are qx) ?_ fun t' k => ?_
  · rw [List.map_map, List.length_map, str_len, show (ss.map ((fun x => x.length) ∘ sKey)) = ss.map (·.length) from List.map_congr_left fun x _ => str_len x]
    exact hl
  · show PostE Γ F α s Q (.str (Builtin.Str.glued (sKey sep) (ss.map sKey)) t') _
    rw [StrLaws.glued_eq_join, join_key]
    exact PostE.here I (VR.d_str _ _) q
theorem drs_strs {ss : List (List Nat)} : ∀ {l : List (Str × Tok)}, l.map (·.1) = ss.map (fun z => ⟨z.toArray⟩) → DRs F (ss.map .str) (strValues l) := by
  induction ss with
  | nil => intro l e; cases l with
    | nil => exact .nil
    | cons a r => cases e
  | cons x ss ih => intro l e; cases l with
    | nil => cases e
    | cons a r =>
      obtain ⟨a, t⟩ := a
      have e1 : a = ⟨x.toArray⟩ := (List.cons.inj e).1
      subst e1
      exact .cons (.str x t) (ih (List.cons.inj e).2)
end
section
variable {prog : Program} {w : World} {A : Around} {E : Value → Shared → Prop} {s : Shared}
open Builtin.Str in
theorem split_call {x y : Str} {t u : Tok} {Q : Value → Shared → Prop} (hy : (y.length == 0) = false) (hx : x.length + 2 ≤ sizeLine)
    (h : ∀ l k, l.map (·.1) = Txt.split x y → Q (.ref s.heap.objs.size) { s with toks := k, heap := s.heap.push { cls := .type "list", data := .seq (strValues l).toArray } }) :
    wpAny (model prog w) A (call (.builtin "str.split") [.str x t, .str y u]) Q E s := by
  cases h1 : (decide (x.length < y.length) || decide (strKind x < strKind y)) with
  | true => exact call_meets PySem.F.slot_str_split (typeIs_str _ _ _) PySem.F.entry_str_split (PySem.F.args_str_split_2 _ _) (meets_str_split_cannot_occur x y t u h1) (h [(x, t)] _ (if_pos h1).symm)
  | false =>
    cases hf : (occurrences x y 0 x.length (x.length + 1)).isEmpty with
    | true => exact call_meets PySem.F.slot_str_split (typeIs_str _ _ _) PySem.F.entry_str_split (PySem.F.args_str_split_2 _ _) (meets_str_split_not_found x y t u h1 hy hf) (h [(x, t)] _ ((if_neg (ne_true_of_eq_false h1)).trans (if_pos hf)).symm)
    | false =>
      have z1 : x.length ≤ sizeLine := Nat.le_trans (Nat.le_add_right _ 2) hx
      have z2 : (partsBetween x (occurrences x y 0 x.length (x.length + 1)) y.length).length ≤ sizeLine := by
        rw [length_partsBetween]
        have := StrLaws.occ_length_le x y 0 x.length (x.length + 1)
        exact Nat.le_trans (Nat.add_le_add_right this 1) hx
      refine call_meets PySem.F.slot_str_split (typeIs_str _ _ _) PySem.F.entry_str_split (PySem.F.args_str_split_2 _ _) (meets_str_split_sep x y t u h1 hy hf z1 z2) ?_
      have := h (numbered s.toks (partsBetween x (occurrences x y 0 x.length (x.length + 1)) y.length)) (s.toks + (partsBetween x (occurrences x y 0 x.length (x.length + 1)) y.length).length) ((numbered_texts _ _).trans ((if_neg (ne_true_of_eq_false h1)).trans (if_neg (ne_true_of_eq_false hf))).symm)
      rw [← strsFrom_eq] at this
      exact this
end
section
variable {Γ : Wd} {A : Around} {E : Value → Shared → Prop} {s : Shared} {F : Fz} {α : List SA} {st : List AO} {Q : AV → List AO → Prop}
theorem mb_A {m : MB} {a : AV} {as : List AV} {r : AV} {st' : List AO} {v : Value} {vs : List Value} (hu : A.units + 1 < cLine) (I : Inv Γ F α st s.heap) (e : MbR st m a as r st') (hv : VR F α a v) (ha : VRs F α as vs) (q : Q r st') :
    wpAny (model Γ.prog Γ.w) A (call (.builtin m.id) (v :: vs)) (PostE Γ F α s Q) E s := by
  cases e with
  | append x ho hl =>
    obtain ⟨u, rfl, hx⟩ := vrs_one ha
    obtain ⟨p, hp, rfl, hpp, us, ⟨k, hg⟩, qx⟩ := I.obj ho hv
    obtain ⟨J, X⟩ := upd_list I hp hpp hg (f := fun xs => xs.push u) (ws := us ++ [u]) (l := _ ++ [x]) (List.push_toArray ..) (qx.append (.cons hx .nil))
    refine call_meets PySem.F.slot_list_append ⟨_, hg, rfl⟩ PySem.F.entry_list_append (PySem.F.args_list_append_2 _ _) (list_append p.1 us.toArray k u (by rw [List.size_toArray, ← qx.length]; exact hl)) ⟨hg, ?_⟩
    exact ⟨F, α, _, .d .non, s.toks, rfl, X, J, DR.non, q⟩
  | @pop n l x ho hl e1 =>
    cases vrs_nil ha
    obtain ⟨p, hp, rfl, hpp, us, ⟨k, hg⟩, qx⟩ := I.obj ho hv
    obtain ⟨y, h1, h2, h3⟩ := qx.getLast e1
    obtain ⟨J, X⟩ := upd_list I hp hpp hg (f := fun xs => xs.eraseIdxIfInBounds (us.toArray.size - 1)) (ws := us.dropLast) (l := l.dropLast) (erase_last us) h3
    refine call_meets PySem.F.slot_list_pop ⟨_, hg, rfl⟩ PySem.F.entry_list_pop (PySem.F.args_list_pop_1 _) (MeetsSeq.list_pop_last p.1 us.toArray k y (by simpa using h1) (by rw [List.size_toArray, ← qx.length]; exact hl)) ⟨hg, ?_⟩
    exact ⟨F, α, _, .d x, s.toks, rfl, X, J, h2, q⟩
  | @reverse n l ho hl =>
    cases vrs_nil ha
    obtain ⟨p, hp, rfl, hpp, us, ⟨k, hg⟩, qx⟩ := I.obj ho hv
    obtain ⟨J, X⟩ := upd_list I hp hpp hg (f := fun xs => xs.reverse) (ws := us.reverse) (l := l.reverse) (List.reverse_toArray ..) qx.reverse
    refine call_meets PySem.F.slot_list_reverse ⟨_, hg, rfl⟩ PySem.F.entry_list_reverse (PySem.F.args_list_reverse_1 _) (AutoSeq1.list_reverse_list_0 p.1 us.toArray k (by rw [List.size_toArray, ← qx.length]; exact hl)) ⟨hg, ?_⟩
    exact ⟨F, α, _, .d .non, s.toks, rfl, X, J, DR.non, q⟩
  | startswith x y =>
    obtain ⟨u, rfl, hx⟩ := vrs_one ha
    cases hv; cases hx
    refine SC.startswith ?_
    have : Txt.startswith ⟨x.toArray⟩ ⟨y.toArray⟩ = (decide (y.length ≤ x.length) && x.take y.length == y) := by
      unfold Txt.startswith
      rw [StrLaws.subAt_eq, str_len, str_len]
      simp
    rw [this]; exact PostE.here' I (VR.d_boo _) q
  | get ho e1 =>
    obtain ⟨u, rfl, hx⟩ := vrs_one ha
    exact get_A I hu ho e1 hv hx (.inl ⟨rfl, rfl⟩) q
  | getE dd ho e1 =>
    obtain ⟨u, u', rfl, hx, hy⟩ := vrs_two ha
    exact get_A I hu ho e1 hv hx (.inr ⟨u', rfl, hy⟩) q
  | @join n ss sep ho hl =>
    obtain ⟨u, rfl, hx⟩ := vrs_one ha
    cases hv
    obtain ⟨p, hp, rfl, hpp, us, hg, qx⟩ := I.obj ho hx
    exact join_A I hl hg.isList qx q
  | @joinD ss sep hl =>
    obtain ⟨u, rfl, hx⟩ := vrs_one ha
    cases hv
    cases hx with
    | lst h c e qx => exact join_A I hl ⟨_, I.agree _ _ h, c, _, e⟩ qx q
  | @split ss x y hy hx e =>
    obtain ⟨u, rfl, hu⟩ := vrs_one ha
    cases hv; cases hu
    refine split_call (by rw [str_len]; exact hy) (by rw [str_len]; exact hx) fun l k el => ?_
    exact post_made I rfl (dr_lst_new I (drs_strs (el.trans e))) q k
end
end Mn
end
section
open PySem PySem.W PyProof.Rows PySem.SeqAt
namespace Mn
structure ClsOK (Γ : Wd) (c : Nat) (C : Addr) : Prop where
  ga : findIn Γ.K (.ref C) "__getattribute__" = some (some (.builtin "object.__getattribute__"))
  gt : findIn Γ.K (.ref C) "__getattr__" = some none
  sa : findIn Γ.K (.ref C) "__setattr__" = some (some (.builtin "object.__setattr__"))
  hd : hasDictIn Γ.K C = true
  po : plainOver Γ.K C = true
  fl : ∀ f, f < Γ.P.flds.length → findIn Γ.K (.ref C) (Γ.P.fld f) = some none
  mks : makesIn Γ.K C = true
  kp : keepIn Γ.K (.ref C) = true
  mt : ∀ m f, mthOf Γ.P c m = some f → ∃ fi, Γ.P.fns[f]? = some fi ∧ findIn Γ.K (.ref C) (Str.ofString (Γ.P.mths.getD m "")) = some (some (.ref fi.addr)) ∧ typeIn Γ.K (.ref fi.addr) = some (.type "function") ∧ (∀ g, g < Γ.P.flds.length → Γ.P.fld g ≠ Str.ofString (Γ.P.mths.getD m ""))
  ini : ∃ f fi, Γ.P.inits[c]? = some f ∧ Γ.P.fns[f]? = some fi ∧ findIn Γ.K (.ref C) "__init__" = some (some (.ref fi.addr)) ∧ typeIn Γ.K (.ref fi.addr) = some (.type "function")
structure FnOK (Γ : Wd) (fi : FnI) : Prop where
  def_ : ∃ o fd, Γ.B.get? fi.addr = some o ∧ o.data = .func fd ∧ fd.scope = fi.scope ∧ fd.body = .stmts fi.body ∧ fd.globals = mainGlobals ∧ fd.closure = [] ∧ fd.builtins = builtinsNs ∧ Γ.B.CodeRec fd.code fd.qualname ∧
    (∀ (s : Shared) (vs : List Value), (∀ b o, Γ.B.get? b = some o → s.heap.get? b = some o) → vs.length ≤ fi.npar → fi.npar ≤ vs.length + fi.defs.length →
      ∃ dv, DRs (fun a => Γ.B.get? a) (fi.defs.drop (vs.length + fi.defs.length - fi.npar)) dv ∧ BindsTo s fd ⟨vs, []⟩ (((fi.ns.take fi.npar).map Str.ofString).zip (vs ++ dv)))
  kp : keepIn Γ.K (.ref fi.addr) = true
  kind : fi.scope.kind = .function
  co : fi.scope.isCoroutine = false
  gen : fi.scope.isGenerator = false
  nd : (fi.ns.map Str.ofString).Nodup
  dbg : ∀ x ∈ fi.ns, (Str.ofString x == ("__debug__" : Str)) = false ∧ (Str.ofString x == ("__classdict__" : Str)) = false
  np : fi.npar ≤ fi.ns.length
  par : ∀ x ∈ fi.ns, fi.scope.names.lookup (Str.ofString x) = some .local ∨ fi.scope.names.lookup (Str.ofString x) = some .cell
  cel : ((fi.scope.names.filter fun x => x.2 == .cell).map (·.1)).Nodup
structure WdOK (Γ : Wd) : Prop where
  kin : Γ.K.In Γ.B
  ng : Γ.B.Ns mainGlobals Γ.mg
  nb : Γ.B.Ns builtinsNs Γ.mb
  lim : Γ.B.NoLimit
  gt : ∀ (k : Nat) (x : String) (d : D), Γ.P.gtab[k]? = some (x, d) → (Str.ofString x == ("__debug__" : Str)) = false ∧ ∃ v, Γ.mg (Str.ofString x) = some v ∧ DR (fun a => Γ.B.get? a) d v
  bt : ∀ b : BI, Γ.mg (Str.ofString b.name) = none ∧ Γ.mb (Str.ofString b.name) = some b.val
  br : Γ.mg (Str.ofString "range") = none ∧ Γ.mb (Str.ofString "range") = some (.type "range")
  bv : Γ.mg (Str.ofString "reversed") = none ∧ Γ.mb (Str.ofString "reversed") = some (.type "reversed")
  fn : ∀ (f : Nat) (fi : FnI), Γ.P.fns[f]? = some fi → FnOK Γ fi
  fnG : ∀ (f : Nat) (fi : FnI), Γ.P.fns[f]? = some fi → fi.gname ≠ "" → (Str.ofString fi.gname == ("__debug__" : Str)) = false ∧ Γ.mg (Str.ofString fi.gname) = some (.ref fi.addr)
  cl : ∀ (c : Nat) (C : Addr), Γ.P.clss[c]? = some C → ClsOK Γ c C
  clG : ∀ (c : Nat) (C : Addr) (x : String), Γ.P.clss[c]? = some C → Γ.P.clsN[c]? = some x → (Str.ofString x == ("__debug__" : Str)) = false ∧ Γ.mg (Str.ofString x) = some (.ref C)
  finj : ∀ f g : Nat, f < Γ.P.flds.length → g < Γ.P.flds.length → Γ.P.fld f = Γ.P.fld g → f = g
  mlow : @LT.lt Nat _ sysModules Γ.B.objs.size
section
variable {Γ : Wd} {A : Around} {E : Value → Shared → Prop} {s : Shared} {F : Fz} {α : List SA} {st : List AO} {Q : AV → List AO → Prop}
theorem isStr_eq {k : Value} {x y : Str} (h : k.isStr x = true) : k.isStr y = (x == y) := by
  cases k <;> simp [Value.isStr] at h ⊢
  subst h; rfl
theorem isStr_noRef {e : DictEntry} {x : Str} (h : e.key.isStr x = true) : e.refKey = false := by
  unfold DictEntry.refKey
  revert h
  cases e.key <;> simp [Value.isStr]
theorem fields_any {fs : List (Nat × AV)} {es : List DictEntry} (r : FieldsR Γ.P F α fs es) : es.any (·.refKey) = false := by
  induction r with
  | nil => rfl
  | cons _ h _ _ ih => rw [List.any_cons, isStr_noRef h, ih]; rfl
theorem fields_get (W : WdOK Γ) {f : Nat} (hf : f < Γ.P.flds.length) {fs : List (Nat × AV)} {es : List DictEntry} (r : FieldsR Γ.P F α fs es) :
    (match fget fs f with | some av => ∃ v, getL (Γ.P.fld f) es = some (some v) ∧ VR F α av v | none => getL (Γ.P.fld f) es = some none) := by
  have key : (match fget fs f with | some av => ∃ e, es.find? (·.key.isStr (Γ.P.fld f)) = some e ∧ VR F α av e.val | none => es.find? (·.key.isStr (Γ.P.fld f)) = none) := by
    induction r with
    | nil => rfl
    | @cons g av fs e es hg hk hv r ih =>
      unfold fget
      rw [List.find?_cons, isStr_eq hk]
      by_cases h : g = f
      · subst h
        simp only [if_true, beq_self_eq_true]
        exact ⟨e, rfl, hv⟩
      · have : (Γ.P.fld g == Γ.P.fld f) = false := by
          rw [beq_eq_false_iff_ne]; exact fun e => h (W.finj _ _ hg hf e)
        simp only [if_neg h, this]
        exact ih
  unfold getL
  cases h : fget fs f with
  | none =>
    rw [h] at key
    rw [key, fields_any r]; rfl
  | some av =>
    rw [h] at key
    obtain ⟨e, he, hv⟩ := key
    rw [he]
    exact ⟨_, rfl, hv⟩
theorem fields_no {x : Str} (hx : ∀ g, g < Γ.P.flds.length → Γ.P.fld g ≠ x) {fs : List (Nat × AV)} {es : List DictEntry} (r : FieldsR Γ.P F α fs es) : getL x es = some none := by
  have key : es.find? (·.key.isStr x) = none := by
    induction r with
    | nil => rfl
    | @cons g av fs e es hg hk hv r ih =>
      rw [List.find?_cons, isStr_eq hk]
      have : (Γ.P.fld g == x) = false := by rw [beq_eq_false_iff_ne]; exact hx g hg
      rw [this]; exact ih
  unfold getL
  rw [key, fields_any r]; rfl
theorem fields_put (W : WdOK Γ) {f : Nat} (hf : f < Γ.P.flds.length) {av : AV} {v : Value} (hv : VR F α av v) {hsh : Int} {t : Tok} {fs : List (Nat × AV)} {es : List DictEntry} (r : FieldsR Γ.P F α fs es) :
    FieldsR Γ.P F α (fput fs f av) (putL (Γ.P.fld f) hsh (.str (Γ.P.fld f) t) v es) ∧ (putL (Γ.P.fld f) hsh (.str (Γ.P.fld f) t) v es).length ≤ fs.length + 1 := by
  induction r with
  | nil => exact ⟨.cons hf (by simp [Value.isStr]) hv .nil, by simp [putL]⟩
  | @cons g av' fs e es hg hk hv' r ih =>
    unfold fput putL
    rw [isStr_eq hk]
    have len : ∀ {fs : List (Nat × AV)} {es : List DictEntry}, FieldsR Γ.P F α fs es → es.length = fs.length := by
      intro fs es r
      induction r with
      | nil => rfl
      | cons _ _ _ _ ih => simp [ih]
    by_cases h : g = f
    · subst h
      simp only [if_true, beq_self_eq_true]
      exact ⟨.cons hg hk hv r, by simp [len r]⟩
    · have : (Γ.P.fld g == Γ.P.fld f) = false := by
        rw [beq_eq_false_iff_ne]; exact fun e => h (W.finj _ _ hg hf e)
      simp only [if_neg h, this, Bool.false_eq_true, if_false]
      exact ⟨.cons hg hk hv' ih.1, by simp only [List.length_cons]; exact lin ih.2⟩
theorem vr_handed {av : AV} {v : Value} (h : VR F α av v) : handedIn v = true := by
  cases av with
  | d x => cases h <;> rfl
  | ob n => obtain ⟨p, _, rfl⟩ := h; rfl
  | own l => exact h.elim
theorem kin_here (W : WdOK Γ) (I : Inv Γ F α st s.heap) : Γ.K.In s.heap := W.kin.keeps I.bkeep
theorem Inv.inst (I : Inv Γ F α st s.heap) {av : AV} {v : Value} {c : Nat} {fs : List (Nat × AV)} (e : insOf st av = some (c, fs)) (hv : VR F α av v) :
    ∃ n p C es k, av = .ob n ∧ st[n]? = some (.ins c fs) ∧ α[n]? = some p ∧ v = .ref p.1 ∧ p.1 ≠ p.2 ∧ Γ.P.clss[c]? = some C ∧ s.heap.get? p.1 = some (instObj C p.2) ∧ s.heap.get? p.2 = some (dictOf es k) ∧ FieldsR Γ.P F α fs es := by
  unfold insOf at e
  split at e
  · split at e
    · rename_i n _ c' fs' ho
      cases e
      obtain ⟨p, hp, rfl, hne, C, hC, h1, es, k, h2, r⟩ := I.obj ho hv
      exact ⟨n, p, C, es, k, rfl, ho, hp, rfl, hne, hC, h1, h2, r⟩
    · cases e
  · cases e
theorem attr_A (W : WdOK Γ) (I : Inv Γ F α st s.heap) {av r : AV} {v : Value} {c f : Nat} {fs : List (Nat × AV)} (hf : f < Γ.P.flds.length) (e : insOf st av = some (c, fs)) (hg : fget fs f = some r) (hv : VR F α av v) (q : Q r st) :
    wpAny (model Γ.prog Γ.w) A (getAttr v (Γ.P.fld f) true) (PostE Γ F α s Q) E s := by
  obtain ⟨n, p, C, es, k, rfl, ho, hp, rfl, hne, hC, h1, h2, hr⟩ := I.inst e hv
  have K := W.cl c C hC
  have X := kin_here W I
  have IA : InstAt s.heap p.1 (instObj C p.2) C (some (dictOf es k)) := ⟨h1, rfl, rfl, h2⟩
  have g := fields_get W hf hr
  rw [hg] at g
  obtain ⟨u, hu, hur⟩ := g
  exact get_value X IA K.ga (findObj_own K.hd (K.fl f hf) rfl hu) (vr_handed hur) (PostE.here I hur q)
theorem method_A (W : WdOK Γ) (I : Inv Γ F α st s.heap) {av : AV} {v : Value} {c m f : Nat} {fs : List (Nat × AV)} (e : insOf st av = some (c, fs)) (hm : mthOf Γ.P c m = some f) (hv : VR F α av v) {pl : Sem Bool} {Q : Value × List Value → Shared → Prop}
    (h : ∀ fi, Γ.P.fns[f]? = some fi → Q (.ref fi.addr, [v]) s) : wpAny (model Γ.prog Γ.w) A (getMethod v (Str.ofString (Γ.P.mths.getD m "")) pl) Q E s := by
  obtain ⟨n, p, C, es, k, rfl, ho, hp, rfl, hne, hC, h1, h2, hr⟩ := I.inst e hv
  have K := W.cl c C hC
  have X := kin_here W I
  have IA : InstAt s.heap p.1 (instObj C p.2) C (some (dictOf es k)) := ⟨h1, rfl, rfl, h2⟩
  obtain ⟨fi, hfi, hf, ht, hno⟩ := K.mt m f hm
  refine method_fn X IA K.ga K.gt hf ht ?_ (h fi hfi)
  have := fields_no hno hr
  show (getL _ es).map _ = _
  rw [this]; rfl
theorem setattr_A (W : WdOK Γ) (I : Inv Γ F α st s.heap) {n c f : Nat} {fs : List (Nat × AV)} {p : SA} {av : AV} {v : Value} (hf : f < Γ.P.flds.length) (ho : st[n]? = some (.ins c fs)) (hp : α[n]? = some p) (hv : VR F α av v) (hz : fs.length ≤ 900) {Q : Unit → Shared → Prop}
    (h : ∀ h' tk, Inv Γ F α (st.set n (.ins c (fput fs f av))) h' → ExtE F α s.heap F α h' → Q () { s with heap := h', toks := tk }) : wpAny (model Γ.prog Γ.w) A (setAttr (.ref p.1) (Γ.P.fld f) v) Q E s := by
  obtain ⟨hne, C, hC, h1, es, k, h2, hr⟩ := I.rep n p _ hp ho
  have K := W.cl c C hC
  have X := kin_here W I
  have IA : InstAt s.heap p.1 (instObj C p.2) C (some (dictOf es k)) := ⟨h1, rfl, rfl, h2⟩
  refine set_plain X IA K.sa ?_
  have ht : takerIn Γ.K C (Γ.P.fld f) = some none := by unfold takerIn; rw [K.fl f hf]; rfl
  refine osa_open (s := { s with toks := s.toks + 1 }) X IA K.po ht fun b => ?_
  obtain ⟨cd, hc, hd'⟩ := any_some K.hd
  obtain ⟨r1, r2⟩ := fields_put W hf hv (hsh := PyData.keyHash Γ.w.params (Γ.P.fld f)) (t := s.toks + 1) hr
  have e : Obj.putName (Γ.P.fld f) (PyData.keyHash Γ.w.params (Γ.P.fld f)) (.str (Γ.P.fld f) (s.toks + 1)) v (dictOf es k) = dictOf (putL (Γ.P.fld f) (PyData.keyHash Γ.w.params (Γ.P.fld f)) (.str (Γ.P.fld f) (s.toks + 1)) v es) (putN (Γ.P.fld f) es k) := putName_dict ..
  have g2 : (s.heap.update p.2 (Obj.putName (Γ.P.fld f) (PyData.keyHash Γ.w.params (Γ.P.fld f)) (.str (Γ.P.fld f) (s.toks + 1)) v)).get? p.2 = some (dictOf (putL (Γ.P.fld f) (PyData.keyHash Γ.w.params (Γ.P.fld f)) (.str (Γ.P.fld f) (s.toks + 1)) v es) (putN (Γ.P.fld f) es k)) := by
    rw [Heap.get?_update_self _ h2 (by rw [e]; rfl), e]
  have g1 : (s.heap.update p.2 (Obj.putName (Γ.P.fld f) (PyData.keyHash Γ.w.params (Γ.P.fld f)) (.str (Γ.P.fld f) (s.toks + 1)) v)).get? p.1 = some (instObj C p.2) := by
    rw [Heap.get?_update_other _ _ hne.symm]; exact h1
  obtain ⟨J, Xx⟩ := I.set hp (.inr rfl) (Heap.SameBut.update _ _ _) ⟨_, g2⟩ (ao := .ins c (fput fs f av)) ⟨hne, C, hC, g1, _, _, g2, r1⟩
  refine wpAny_bind (wpAny_pure (wpAny_bind (wpAny_bind (wpAny_loadPart h1 (wpAny_bind (Looks.here (looks_clsIn X hc) ?_))))))
  rw [hd']
  refine wpAny_pure (a := some p.2) (wpAny_bind (wpAny_pure (wpAny_bind ?_)))
  unfold nsSet
  refine wpAny_bind (wpAny_bind (wpAny_askSetting (wpAny_pure (wpAny_bind (wpAny_mkText (wpAny_bind (wpAny_loadPart h2 ?_)))))))
  have c0 : (!(es.toArray).any (·.key.isStr (Γ.P.fld f)) && (es.toArray).any (·.refKey)) = false := by
    have : (es.toArray).any (·.refKey) = false := by rw [List.any_toArray]; exact fields_any hr
    rw [this, Bool.and_false]
  dsimp only
  rw [aRefKeyMayBeTheName_at, c0]
  refine wpAny_updatePart h2 ?_
  refine wpAny_bind (wpAny_lookBehind g2 ?_ ?_)
  · exact pastItsLine_dict (by rw [List.size_toArray, sizeLine_eq]; exact lin (ad hz r2))
  · exact wpAny_pure (h _ _ J Xx)
end
end Mn
end
section
open PySem PySem.W PyProof.Rows PySem.SeqAt
namespace Mn
section
variable {Γ : Wd} {A : Around} {E : Value → Shared → Prop} {s : Shared} {F : Fz} {α : List SA} {st : List AO}
theorem KV.length {κ κ' : Type} {f : κ → κ'} {es : List (κ × D)} {kvs : List (κ' × Value)} (h : KV F f es kvs) : es.length = kvs.length := by
  induction h with
  | nil => rfl
  | cons _ _ ih => exact congrArg Nat.succ ih
theorem KVH.length {es : List (List Int × D)} {kvs : List (List Int × Addr × Value)} (h : KVH F es kvs) : es.length = kvs.length := by
  induction h with
  | nil => rfl
  | cons _ _ _ ih => exact congrArg Nat.succ ih
noncomputable def putKV {κ : Type} [DecidableEq κ] : List (κ × Value) → κ → Value → List (κ × Value)
  | [], k, v => [(k, v)]
  | (k', u) :: r, k, v => if k' = k then (k', v) :: r else (k', u) :: putKV r k v
theorem stored_put {κ : Type} [DecidableEq κ] (k : κ) (v : Value) {kvs : List (κ × Value)} (hn : (kvs.map (·.1)).Nodup) : stored kvs k v = putKV kvs k v := by
  induction kvs with
  | nil => rfl
  | cons x r ih =>
    obtain ⟨k', u⟩ := x
    rw [List.map_cons, List.nodup_cons] at hn
    have ih := ih hn.2
    unfold putKV
    by_cases h : k' = k
    · subst h
      rw [if_pos rfl]
      unfold stored
      rw [List.any_cons, decide_eq_true rfl, Bool.true_or, if_pos rfl, List.map_cons, if_pos rfl, map_store_of_not_mem r k' v hn.1]
    · rw [if_neg h, ← ih]
      unfold stored
      rw [List.any_cons, decide_eq_false h, Bool.false_or]
      by_cases hr : (r.any fun kv => decide (kv.1 = k)) = true
      · rw [if_pos hr, if_pos hr, List.map_cons, if_neg h]
      · rw [if_neg hr, if_neg hr]; rfl
theorem KV.put {κ κ' : Type} [DecidableEq κ] [DecidableEq κ'] {f : κ → κ'} (hf : ∀ a b, f a = f b → a = b) {k : κ} {d : D} {v : Value} (hv : DR F d v) {es : List (κ × D)} {kvs : List (κ' × Value)} (h : KV F f es kvs) : KV F f (aput es k d) (putKV kvs (f k) v) := by
  induction h with
  | nil => exact .cons hv .nil
  | @cons k' _ _ _ _ a b ih =>
    unfold aput putKV
    by_cases h : k' = k
    · subst h; rw [if_pos rfl, if_pos rfl]; exact .cons hv b
    · rw [if_neg h, if_neg (fun e => h (hf _ _ e))]; exact .cons a ih
theorem KV.del {κ κ' : Type} [DecidableEq κ] [DecidableEq κ'] {f : κ → κ'} (hf : ∀ a b, f a = f b → a = b) {k : κ} {es : List (κ × D)} {kvs : List (κ' × Value)} (h : KV F f es kvs) : KV F f (adel es k) (without kvs (f k)) := by
  induction h with
  | nil => exact .nil
  | @cons k' _ _ _ _ a b ih =>
    unfold adel without at ih ⊢
    rw [List.filter_cons, List.filter_cons]
    by_cases h : k' = k
    · rw [if_neg (by simp [h]), if_neg (by simp [h])]; exact ih
    · have h' : f k' ≠ f k := fun e => h (hf _ _ e)
      rw [if_pos (decide_eq_true h), if_pos (decide_eq_true h')]; exact .cons a ih
noncomputable def putKVH : List (List Int × Addr × Value) → List Int → Addr → Value → List (List Int × Addr × Value)
  | [], k, a, v => [(k, a, v)]
  | (k', b, u) :: r, k, a, v => if k' = k then (k', b, v) :: r else (k', b, u) :: putKVH r k a v
theorem storedH_put (k : List Int) (a : Addr) (v : Value) {xs : List (List Int × Addr × Value)} (hn : (xs.map (·.1)).Nodup) : storedH xs k a v = putKVH xs k a v := by
  induction xs with
  | nil => rfl
  | cons x r ih =>
    obtain ⟨k', b, u⟩ := x
    rw [List.map_cons, List.nodup_cons] at hn
    have ih := ih hn.2
    unfold putKVH
    by_cases h : k' = k
    · subst h
      rw [if_pos rfl]
      unfold storedH
      rw [if_pos (by simp [atKey]), List.map_cons, map_putAt_of_not_mem r k' v hn.1]
      simp [putAt]
    · rw [if_neg h, ← ih]
      unfold storedH
      have e : atKey ((k', b, u) :: r) k = atKey r k := by unfold atKey; rw [List.find?_cons, decide_eq_false h]
      rw [e]
      split
      · rw [List.map_cons]; simp [putAt, h]
      · rfl
theorem KVH.put {k : List Int} {d : D} {a : Addr} {v : Value} (ha : DR F (.tup (k.map .int)) (.ref a)) (hv : DR F d v) {es : List (List Int × D)} {xs : List (List Int × Addr × Value)} (h : KVH F es xs) : KVH F (aput es k d) (putKVH xs k a v) := by
  induction h with
  | nil => exact .cons ha hv .nil
  | cons x y b ih =>
    rename_i k' _ _ _ _ _
    unfold aput putKVH
    by_cases h : k' = k
    · subst h; rw [if_pos rfl, if_pos rfl]; exact .cons x hv b
    · rw [if_neg h, if_neg h]; exact .cons x y ih
theorem dictOf_nodup {K : Type} [DecidableEq K] {knd : KeyKind Γ.prog Γ.w K} {h : Heap} {a : Addr} {kvs : List (K × Value)} (x : h.DictOf knd a kvs) : (kvs.map (·.1)).Nodup := let ⟨_, _, _, _, _, _, _, _, n⟩ := x; n
theorem dictOf_some {K : Type} [DecidableEq K] {knd : KeyKind Γ.prog Γ.w K} {h : Heap} {a : Addr} {kvs : List (K × Value)} (x : h.DictOf knd a kvs) : ∃ o, h.get? a = some o := let ⟨o, _, _, e, _⟩ := x; ⟨o, e⟩
theorem setItem_A (I : Inv Γ F α st s.heap) (hu : A.units + 1 < cLine) {n : Nat} {p : SA} {o o' : AO} {k d : D} {kv v : Value} (ho : st[n]? = some o) (hp : α[n]? = some p) (e : DS o k d o') (hk : DR F k kv) (hv : DR F d v) {Q : Unit → Shared → Prop}
    (h : ∀ h' tk, Inv Γ F α (st.set n o') h' → ExtE F α s.heap F α h' → Q () { s with heap := h', toks := tk }) : wpAny (model Γ.prog Γ.w) A (setItem (.ref p.1) kv v) Q E s := by
  have R := I.rep n p o hp ho
  have hStr : ∀ {es : List (List Nat × D)} {kvs : List (Str × Value)} {x : List Nat} {t : Tok}, p.1 = p.2 → (p.1 == sysModules) = false → s.heap.DictOf (strKind Γ.prog Γ.w) p.1 kvs → KV F sKey es kvs → kvs.length ≤ sizeLine → kv = .str (sKey x) t → o' = .dS (aput es x d) → wpAny (model Γ.prog Γ.w) A (setItem (.ref p.1) kv v) Q E s := by
    intro es kvs x t h1 h2 hm q hz e e'
    subst e e'
    refine wpAny_setItem_pairs (hsz := hz) (strKind_is _ _ _ _) hm fun h' hm' hs => ?_
    have hq := q.put (fun _ _ => sKey_inj) (k := x) hv
    rw [← stored_put _ _ (dictOf_nodup hm)] at hq
    obtain ⟨J, X⟩ := I.set hp (.inl rfl) hs (dictOf_some hm') (ao := .dS (aput es x d)) ⟨h1, h2, _, hm', hq⟩
    exact h _ _ J X
  have hInt : ∀ {es : List (Int × D)} {kvs : List (Int × Value)} {x : Int} {t : Tok}, p.1 = p.2 → (p.1 == sysModules) = false → s.heap.DictOf (intKind Γ.prog Γ.w) p.1 kvs → KV F id es kvs → kvs.length ≤ sizeLine → kv = .int x t → o' = .dI (aput es x d) → wpAny (model Γ.prog Γ.w) A (setItem (.ref p.1) kv v) Q E s := by
    intro es kvs x t h1 h2 hm q hz e e'
    subst e e'
    refine wpAny_setItem_pairs (hsz := hz) (intKind_is _ _ _ _) hm fun h' hm' hs => ?_
    have hq := q.put (fun _ _ e => e) (k := x) hv
    rw [← stored_put _ _ (dictOf_nodup hm)] at hq
    obtain ⟨J, X⟩ := I.set hp (.inl rfl) hs (dictOf_some hm') (ao := .dI (aput es x d)) ⟨h1, h2, _, hm', hq⟩
    exact h _ _ J X
  have hTup : ∀ {es : List (List Int × D)} {xs : List (List Int × Addr × Value)} {x : List Int} {a : Addr}, p.1 = p.2 → (p.1 == sysModules) = false → s.heap.DictOfH (tupleKind (intKind Γ.prog Γ.w)) p.1 xs → KVH F es xs → xs.length ≤ sizeLine → kv = .ref a → IsTupleKey (intKind Γ.prog Γ.w) s.heap x a → DR F (.tup (x.map .int)) kv → o' = .dP (aput es x d) → wpAny (model Γ.prog Γ.w) A (setItem (.ref p.1) kv v) Q E s := by
    intro es xs x a h1 h2 hm q hz e hk2 hd e'
    subst e e'
    refine wpAny_setItem_heap (knd := tupleKind (intKind Γ.prog Γ.w)) (hsz := hz) hu hk2 hm fun h' hm' hs => ?_
    have hq := q.put hd hv
    rw [← storedH_put _ _ _ (by obtain ⟨_, _, _, _, _, _, _, _, n⟩ := hm; exact n)] at hq
    obtain ⟨J, X⟩ := I.set hp (.inl rfl) hs (by obtain ⟨o, _, _, e, _⟩ := hm'; exact ⟨o, e⟩) (ao := .dP (aput es x d)) ⟨h1, h2, _, hm', hq⟩
    exact h _ _ J X
  cases e with
  | s0 =>
    cases hk; obtain ⟨h1, h2, m, hg⟩ := R
    exact hStr (es := []) (kvs := []) h1 h2 (empty_dictOf _ hg) .nil (Nat.zero_le _) rfl rfl
  | i0 =>
    cases hk; obtain ⟨h1, h2, m, hg⟩ := R
    exact hInt (es := []) (kvs := []) h1 h2 (empty_dictOf _ hg) .nil (Nat.zero_le _) rfl rfl
  | t0 =>
    obtain ⟨a, rfl, hk'⟩ := isKey_of (Γ := Γ) (s := s) I.agree hk
    obtain ⟨h1, h2, m, hg⟩ := R
    exact hTup (es := []) (xs := []) h1 h2 (empty_dictOfH hg) .nil (Nat.zero_le _) rfl hk' hk rfl
  | s _ _ hz =>
    cases hk; obtain ⟨h1, h2, kvs, hm, q⟩ := R
    exact hStr h1 h2 hm q (by rw [← q.length]; exact hz) rfl rfl
  | i _ _ hz =>
    cases hk; obtain ⟨h1, h2, kvs, hm, q⟩ := R
    exact hInt h1 h2 hm q (by rw [← q.length]; exact hz) rfl rfl
  | t _ _ hz =>
    obtain ⟨a, rfl, hk'⟩ := isKey_of (Γ := Γ) (s := s) I.agree hk
    obtain ⟨h1, h2, xs, hm, q⟩ := R
    exact hTup h1 h2 hm q (by rw [← q.length]; exact hz) rfl hk' hk rfl
theorem delItem_A (I : Inv Γ F α st s.heap) {n : Nat} {p : SA} {es : List (Int × D)} {k : Int} {t : Tok} (ho : st[n]? = some (.dI es)) (hp : α[n]? = some p) (hz : es.length ≤ big) (hl : (aget es k).isSome = true) {Q : Unit → Shared → Prop}
    (h : ∀ h' tk, Inv Γ F α (st.set n (.dI (adel es k))) h' → ExtE F α s.heap F α h' → Q () { s with heap := h', toks := tk }) : wpAny (model Γ.prog Γ.w) A (delItem (.ref p.1) (.int k t)) Q E s := by
  obtain ⟨h1, h2, kvs, hD, q⟩ := I.rep n p _ hp ho
  have hkey := intKind_is Γ.prog Γ.w k t
  unfold delItem
  try with_reducible refine wpAny_holding ?_
  refine wpAny_bind (wpAny_sequenceKey hD.typeIs (by decide) ?_)
  refine wpAny_bind (wpAny_callSpecial?_slot (name := Str.ofString "__delitem__") hD.typeIs PySem.F.slot_dict_delitem
    (call_meetsIn PySem.F.slot_dict_delitem hD.typeIs PySem.F.entry_dict_delitem (PySem.F.args_dict_delitem_2 _ _) (meets_dict_delitem_pairs (intKind Γ.prog Γ.w) p.1 hkey) ⟨kvs, hD, (by rw [← q.length]; exact hz), ?_, fun h' hmm hs => ?_⟩))
  · have := find_KV (fun _ _ e => e) k q
    cases e : aget es k with
    | none => rw [e] at hl; cases hl
    | some d => rw [e] at this; obtain ⟨v, hv, _⟩ := this; have hv' : valueAt kvs k = some v := hv; rw [hv']; rfl
  · have hq := q.del (fun _ _ e => e) (k := k)
    obtain ⟨J, X⟩ := I.set hp (.inl rfl) hs (dictOf_some hmm) (ao := .dI (adel es k)) ⟨h1, h2, _, hmm, hq⟩
    exact wpAny_pure (h _ _ J X)
end
end Mn
end
section
namespace Mn
abbrev NE : Value → Shared → Prop := fun _ _ => False
noncomputable def Room (A : Around) (n : Nat) : Prop := A.handled = none ∧ A.depth + n ≤ recursionLimit ∧ A.units + 8 * n + 40 ≤ cLine
noncomputable def RetE (Γ : Wd) (F : Fz) (α : List SA) (s : Shared) (Q : AV → List AO → Prop) (r : Result) (s' : Shared) : Prop := match r with
  | .ok (.ret v) => PostE Γ F α s Q v s'
  | .ok _ => False
  | .error e => NE e s'
noncomputable def CallOK (Γ : Wd) (n : Nat) : CallT := fun f vs st Q => ∃ fi, Γ.P.fns[f]? = some fi ∧ ∀ (A : Around) (s : Shared) (F : Fz) (α : List SA) (us : List Value), Room A n → Inv Γ F α st s.heap → VRs F α vs us →
  codeAny (model Γ.prog Γ.w) A (.call (.ref fi.addr) ⟨us, []⟩) (RetE Γ F α s Q) s
noncomputable def NewOK (Γ : Wd) (n : Nat) : CallT := fun c vs st Q => ∃ C, Γ.P.clss[c]? = some C ∧ ∀ (A : Around) (s : Shared) (F : Fz) (α : List SA) (us : List Value), Room A n → Inv Γ F α st s.heap → VRs F α vs us →
  codeAny (model Γ.prog Γ.w) A (.call (.ref C) ⟨us, []⟩) (RetE Γ F α s Q) s
noncomputable def plainB : X → Bool
  | .cal .. => false
  | .new .. => false
  | .bi .. => false
  | _ => true
noncomputable def Xs.length : Xs → Nat
  | .nil => 0
  | .cons _ r => r.length + 1
section
variable {Γ : Wd} {A : Around} {s : Shared} {F : Fz} {α : List SA} {st : List AO} {Q : AV → List AO → Prop}
theorem post_after {F₁ : Fz} {α₁ : List SA} {s₁ : Shared} {c : Sem Value} (hs : ∃ tk, s₁ = { s with heap := s₁.heap, toks := tk }) (x : ExtE F α s.heap F₁ α₁ s₁.heap)
    (h : wpAny (model Γ.prog Γ.w) A c (PostE Γ F₁ α₁ s₁ Q) NE s₁) : wpAny (model Γ.prog Γ.w) A c (PostE Γ F α s Q) NE s₁ :=
  wpAny_mono h (fun _ _ p => p.after hs x) fun _ _ e => e
theorem post_afterB {F₁ : Fz} {α₁ : List SA} {s₁ : Shared} {c : Sem Bool} (hs : ∃ tk, s₁ = { s with heap := s₁.heap, toks := tk }) (x : ExtE F α s.heap F₁ α₁ s₁.heap)
    (h : wpAny (model Γ.prog Γ.w) A c (fun b s' => PostE Γ F₁ α₁ s₁ Q (.bool b) s') NE s₁) : wpAny (model Γ.prog Γ.w) A c (fun b s' => PostE Γ F α s Q (.bool b) s') NE s₁ :=
  wpAny_mono h (fun _ _ p => p.after hs x) fun _ _ e => e
theorem PostE.imp {Q' : AV → List AO → Prop} {v : Value} {s' : Shared} (p : PostE Γ F α s Q v s') (h : ∀ av st, Q av st → Q' av st) : PostE Γ F α s Q' v s' := by
  obtain ⟨F', α', st', av, tk, e, x, I, r, q⟩ := p
  exact ⟨F', α', st', av, tk, e, x, I, r, h _ _ q⟩
theorem truthy_R {av : AV} {v : Value} {b : Bool} {E : Value → Shared → Prop} {Q : Bool → Shared → Prop} (I : Inv Γ F α st s.heap) (r : VR F α av v) (e : TrR st av b) (h : ∀ tk, Q b { s with toks := tk }) : wpAny (model Γ.prog Γ.w) A (truthy v) Q E s := by
  cases av with
  | d x => exact truthy_D I.agree r e h
  | own l => exact r.elim
  | ob n =>
    cases e with
    | ob ho hl =>
      obtain ⟨p, hp, rfl, hpp, vs, ht, q⟩ := I.obj ho r
      exact truthy_L ht.isList q hl h
theorem trW_R {st : List AO} {av : AV} {K : Bool → Prop} (h : trW st av K) : ∃ b, TrR st av b ∧ K b := by
  cases av with
  | d x => cases x with
    | boo b => exact ⟨b, .boo b, h⟩
    | _ => exact h
  | _ => exact h
theorem truthy_A {av : AV} {v : Value} {K : Bool → Prop} {E : Value → Shared → Prop} {Q : Bool → Shared → Prop} (I : Inv Γ F α st s.heap) (r : VR F α av v) (e : trW st av K) (h : ∀ b tk, K b → Q b { s with toks := tk }) : wpAny (model Γ.prog Γ.w) A (truthy v) Q E s :=
  let ⟨b, e, k⟩ := trW_R e
  truthy_R I r e fun tk => h b tk k
theorem lift_true {e : PySem.Expr} {env : Env} (hd : isTrue e env (eval e env) = (do let v ← eval e env; standAt e.pos; holding [v] (truthy v)))
    (h : wpAny (model Γ.prog Γ.w) A (eval e env) (PostE Γ F α s (finX true Q)) NE s) : wpAny (model Γ.prog Γ.w) A (isTrue e env (eval e env)) (fun b s' => PostE Γ F α s Q (.bool b) s') NE s := by
  refine wpAny_isTrue_value (wpAny_mono h (fun v s₁ p => ?_) fun _ _ e => e) hd
  obtain ⟨F', α', st', av, tk, e, x, I, r, q⟩ := p
  exact truthy_A I r (show trW st' av fun b => Q (.d (.boo b)) st' from q) fun b tk' q => ⟨F', α', st', _, tk', by rw [e], x, I, .d_boo b, q⟩
end
section
variable (Γ : Wd) (n : Nat) (env : Env) (ns : List String)
noncomputable def SemX (x : X) : Prop := ∀ (c : Bool) (A : Around) (s : Shared) (F : Fz) (α : List SA) (st : List AO) (vars : Vars) (oa : Nat → Addr) (Q : AV → List AO → Prop), Room A n → Inv Γ F α st s.heap → Frm F α env ns vars oa s.heap →
  wpX Γ.P (CallOK Γ n) (NewOK Γ n) x c vars st Q →
  if c = true then wpAny (model Γ.prog Γ.w) A (isTrue (toE Γ.P ns x) env (eval (toE Γ.P ns x) env)) (fun b s' => PostE Γ F α s Q (.bool b) s') NE s
  else wpAny (model Γ.prog Γ.w) A (eval (toE Γ.P ns x) env) (PostE Γ F α s Q) NE s
noncomputable def PostEs (F : Fz) (α : List SA) (s : Shared) (Q : List AV → List AO → Prop) (vs : List Value) (s' : Shared) : Prop :=
  ∃ F' α' st' l tk, s' = { s with heap := s'.heap, toks := tk } ∧ ExtE F α s.heap F' α' s'.heap ∧ Inv Γ F' α' st' s'.heap ∧ VRs F' α' l vs ∧ Q l st'
noncomputable def SemXs (xs : Xs) : Prop := ∀ (A : Around) (s : Shared) (F : Fz) (α : List SA) (st : List AO) (vars : Vars) (oa : Nat → Addr) (Q : List AV → List AO → Prop) (pos : Pos), Room A n → Inv Γ F α st s.heap → Frm F α env ns vars oa s.heap →
  wpXs Γ.P (CallOK Γ n) (NewOK Γ n) xs vars st Q →
  wpAny (model Γ.prog Γ.w) A (spliced (backTo pos (starEach (toEs Γ.P ns xs) env))) (PostEs Γ F α s Q) NE s
end
section
variable {Γ : Wd} {n : Nat} {env : Env} {ns : List String}
theorem SemX.step {x : X} (h : SemX Γ n env ns x) {A : Around} {s : Shared} {F : Fz} {α : List SA} {st : List AO} {vars : Vars} {oa : Nat → Addr} {Q : AV → List AO → Prop} (R : Room A n) (I : Inv Γ F α st s.heap) (f : Frm F α env ns vars oa s.heap)
    (w : wpX Γ.P (CallOK Γ n) (NewOK Γ n) x false vars st Q) {K : Value → Shared → Prop}
    (k : ∀ F' α' st' av v s', (∃ tk, s' = { s with heap := s'.heap, toks := tk }) → ExtE F α s.heap F' α' s'.heap → Inv Γ F' α' st' s'.heap → Frm F' α' env ns vars oa s'.heap → VR F' α' av v → Q av st' → K v s') :
    wpAny (model Γ.prog Γ.w) A (eval (toE Γ.P ns x) env) K NE s := by
  refine wpAny_mono (h false A s F α st vars oa Q R I f w) (fun v s' p => ?_) fun _ _ e => e
  obtain ⟨F', α', st', av, tk, e, x, I', r, q⟩ := p
  exact k F' α' st' av v s' ⟨tk, e⟩ x I' (f.ext x) r q
theorem SemX.stepT {x : X} (h : SemX Γ n env ns x) {A : Around} {s : Shared} {F : Fz} {α : List SA} {st : List AO} {vars : Vars} {oa : Nat → Addr} {Q : AV → List AO → Prop} (R : Room A n) (I : Inv Γ F α st s.heap) (f : Frm F α env ns vars oa s.heap)
    (w : wpX Γ.P (CallOK Γ n) (NewOK Γ n) x true vars st Q) {K : Bool → Shared → Prop}
    (k : ∀ F' α' st' b s', (∃ tk, s' = { s with heap := s'.heap, toks := tk }) → ExtE F α s.heap F' α' s'.heap → Inv Γ F' α' st' s'.heap → Frm F' α' env ns vars oa s'.heap → Q (.d (.boo b)) st' → K b s') :
    wpAny (model Γ.prog Γ.w) A (isTrue (toE Γ.P ns x) env (eval (toE Γ.P ns x) env)) K NE s := by
  refine wpAny_mono (h true A s F α st vars oa Q R I f w) (fun v s' p => ?_) fun _ _ e => e
  obtain ⟨F', α', st', av, tk, e, x, I', r, q⟩ := p
  have : av = .d (.boo v) := by
    cases av with
    | d y => cases r; rfl
    | ob m => obtain ⟨p, _, hp⟩ := r; cases hp
    | own l => exact r.elim
  subst this
  exact k F' α' st' v s' ⟨tk, e⟩ x I' (f.ext x) q
theorem SemXs.step {xs : Xs} (h : SemXs Γ n env ns xs) {A : Around} {s : Shared} {F : Fz} {α : List SA} {st : List AO} {vars : Vars} {oa : Nat → Addr} {Q : List AV → List AO → Prop} {pos : Pos} (R : Room A n) (I : Inv Γ F α st s.heap) (f : Frm F α env ns vars oa s.heap)
    (w : wpXs Γ.P (CallOK Γ n) (NewOK Γ n) xs vars st Q) {K : List Value → Shared → Prop}
    (k : ∀ F' α' st' l vs s', (∃ tk, s' = { s with heap := s'.heap, toks := tk }) → ExtE F α s.heap F' α' s'.heap → Inv Γ F' α' st' s'.heap → Frm F' α' env ns vars oa s'.heap → VRs F' α' l vs → Q l st' → K vs s') :
    wpAny (model Γ.prog Γ.w) A (spliced (backTo pos (starEach (toEs Γ.P ns xs) env))) K NE s := by
  refine wpAny_mono (h A s F α st vars oa Q pos R I f w) (fun v s' p => ?_) fun _ _ e => e
  obtain ⟨F', α', st', l, tk, e, x, I', r, q⟩ := p
  exact k F' α' st' l v s' ⟨tk, e⟩ x I' (f.ext x) r q
theorem SemX.mk {x : X} (W : Vars → List AO → (AV → List AO → Prop) → Prop) (hw : ∀ c vs st Q, wpX Γ.P (CallOK Γ n) (NewOK Γ n) x c vs st Q → W vs st (finX c Q))
    (hd : isTrue (toE Γ.P ns x) env (eval (toE Γ.P ns x) env) = (do let v ← eval (toE Γ.P ns x) env; standAt (toE Γ.P ns x).pos; holding [v] (truthy v)))
    (h : ∀ (A : Around) (s : Shared) (F : Fz) (α : List SA) (st : List AO) (vars : Vars) (oa : Nat → Addr) (Q : AV → List AO → Prop), Room A n → Inv Γ F α st s.heap → Frm F α env ns vars oa s.heap →
      W vars st Q → wpAny (model Γ.prog Γ.w) A (eval (toE Γ.P ns x) env) (PostE Γ F α s Q) NE s) : SemX Γ n env ns x := by
  intro c A s F α st vars oa Q R I f w
  have w := hw _ _ _ _ w
  cases c with
  | true => exact lift_true hd (h A s F α st vars oa _ R I f w)
  | false => exact h A s F α st vars oa _ R I f w
theorem tr_trans {s s₁ s₂ : Shared} (h : ∃ tk, s₁ = { s with heap := s₁.heap, toks := tk }) (h' : ∃ tk, s₂ = { s₁ with heap := s₂.heap, toks := tk }) : ∃ tk, s₂ = { s with heap := s₂.heap, toks := tk } := by
  obtain ⟨a, e⟩ := h
  obtain ⟨b, e'⟩ := h'
  exact ⟨b, by rw [e', e]⟩
theorem room_u {A : Around} (R : Room A n) : A.units + 2 < cLine := by
  have := R.2.2
  exact lin this
theorem sem_cint {k : Int} {i : Nat} {p : Pos} : SemX Γ n env ns (.cint k i p) :=
  .mk (fun _ st Q => Q (.d (.int k)) st) (fun _ _ _ _ h => h) rfl fun _ _ _ _ _ _ _ _ _ I _ q => wpAny_Constant_int (.here I (.d_int _ _) q)
theorem sem_cstr {x : String} {i : Nat} {p : Pos} : SemX Γ n env ns (.cstr x i p) :=
  .mk (fun _ st Q => Q (.d (.str (codes x))) st) (fun _ _ _ _ h => h) rfl fun _ _ _ _ _ _ _ _ _ I _ q => wpAny_Constant_str (by
    rw [ofString_codes]; exact .here I (.d_str _ _) q)
theorem sem_cnon {i : Nat} {p : Pos} : SemX Γ n env ns (.cnon i p) :=
  .mk (fun _ st Q => Q (.d .non) st) (fun _ _ _ _ h => h) rfl fun _ _ _ _ _ _ _ _ _ I _ q => wpAny_Constant_none (.here' I .d_non q)
theorem sem_cboo {b : Bool} {i : Nat} {p : Pos} : SemX Γ n env ns (.cboo b i p) :=
  .mk (fun _ st Q => Q (.d (.boo b)) st) (fun _ _ _ _ h => h) rfl fun _ _ _ _ _ _ _ _ _ I _ q => wpAny_Constant_bool (.here' I (.d_boo _) q)
theorem sem_loc (K : EOK env ns) {i : Nat} {p : Pos} : SemX Γ n env ns (.loc i p) := by
  intro c A s F α st vars oa Q R I f w
  replace w : (match vars.getD i none with | some (.own l) => c = true ∧ finX c Q (.own l) st | some v => finX c Q v st | none => False) := w
  cases hv : vars.getD i none with
  | none => rw [hv] at w; exact w.elim
  | some av =>
    rw [hv] at w
    cases av with
    | own l =>
      obtain ⟨rfl, w⟩ := w
      refine wpAny_isTrue_value (ld_var K f hv fun v r => ?_) rfl
      obtain ⟨rfl, vs, hl, q⟩ := r
      obtain ⟨b, e, w⟩ : ∃ b, TrR st (.own l) b ∧ Q (.d (.boo b)) st := w
      cases e with
      | own hz => exact truthy_L hl.isList q hz fun tk => .here I (.d_boo _) w
    | d y =>
      cases c with
      | true => exact lift_true rfl (ld_var K f hv fun v r => .here' (av := .d y) I r w)
      | false => exact ld_var K f hv fun v r => .here' (av := .d y) I r w
    | ob m =>
      cases c with
      | true => exact lift_true rfl (ld_var K f hv fun v r => .here' (av := .ob m) I r w)
      | false => exact ld_var K f hv fun v r => .here' (av := .ob m) I r w
theorem ns_here {h : Heap} {F : Fz} {α : List SA} {st : List AO} (I : Inv Γ F α st h) {a : Addr} {m : Str → Option Value} (x : Γ.B.Ns a m) : h.Ns a m := by
  obtain ⟨o, es, ep, ho, r⟩ := x
  exact ⟨o, es, ep, I.bkeep _ _ ho, r⟩
theorem ld_glob (W : WdOK Γ) (K : EOK env ns) {A : Around} {s : Shared} {F : Fz} {α : List SA} {st : List AO} (I : Inv Γ F α st s.heap) {x : Str} {p : Pos} {v : Value} {Q : Value → Shared → Prop} (hk : env.kindOf x = some .globalImplicit) (hd : (x == ("__debug__" : Str)) = false) (hv : Γ.mg x = some v) (h : Q v s) :
    wpAny (model Γ.prog Γ.w) A (eval (.Name x p) env) Q NE s :=
  Calls.Name_function_global K.kind hk (Calls.loadGlobal_global (by rw [K.gl]; exact ns_here I W.ng) hv h) hd
theorem ld_bltn (W : WdOK Γ) (K : EOK env ns) {A : Around} {s : Shared} {F : Fz} {α : List SA} {st : List AO} (I : Inv Γ F α st s.heap) {x : Str} {p : Pos} {v : Value} {Q : Value → Shared → Prop} (hk : env.kindOf x = some .globalImplicit) (hd : (x == ("__debug__" : Str)) = false) (hg : Γ.mg x = none) (hv : Γ.mb x = some v) (h : Q v s) :
    wpAny (model Γ.prog Γ.w) A (eval (.Name x p) env) Q NE s :=
  Calls.Name_function_global K.kind hk (Calls.loadGlobal_builtin (by rw [K.gl]; exact ns_here I W.ng) hg (by rw [K.bt]; exact ns_here I W.nb) hv h) hd
theorem sem_gv (W : WdOK Γ) (K : EOK env ns) {k : Nat} {p : Pos} (hk : env.kindOf (Str.ofString ((Γ.P.gtab.map (·.1)).getD k "")) = some .globalImplicit) : SemX Γ n env ns (.gv k p) :=
  .mk (fun _ st Q => match (Γ.P.gtab.map (·.2))[k]? with | some d => Q (.d d) st | none => False) (fun _ _ _ _ h => h) rfl fun A s F α st vars oa Q R I f q => by
    rw [List.getElem?_map] at q
    cases e : Γ.P.gtab[k]? with
    | none => rw [e] at q; exact q.elim
    | some xd =>
      obtain ⟨x, d⟩ := xd
      rw [e] at q
      obtain ⟨hd, v, hv, hr⟩ := W.gt k x d e
      have ex : (Γ.P.gtab.map (·.1)).getD k "" = x := by
        rw [List.getD_eq_getElem?_getD, List.getElem?_map, e]; rfl
      show wpAny _ A (eval (.Name (Str.ofString ((Γ.P.gtab.map (·.1)).getD k "")) p) env) _ _ s
      rw [ex] at hk ⊢
      exact ld_glob W K I hk hd hv (.here' (av := .d d) I (DR.mono (fun a o h => I.base a o h) hr) q)
theorem sem_neg {a : X} {p : Pos} (ha : SemX Γ n env ns a) : SemX Γ n env ns (.neg a p) :=
  .mk (fun vs st Q => wpX Γ.P (CallOK Γ n) (NewOK Γ n) a false vs st fun v st => match v with | .d (.int n) => Q (.d (.int (-n))) st | _ => False) (fun _ _ _ _ h => h) rfl fun A s F α st vars oa Q R I f q => by
    refine wpAny_UnaryOp (ha.step R I f q fun F' α' st' av v s' hs x I' f' r q => ?_)
    cases av with
    | d y => cases y with
      | int n => cases r; exact P.neg_int (PostE.after hs x (.here I' (.d_int _ _) q))
      | _ => exact q.elim
    | _ => exact q.elim
theorem sem_not {a : X} {p : Pos} (ha : SemX Γ n env ns a) : SemX Γ n env ns (.not a p) := by
  intro c A s F α st vars oa Q R I f q
  cases c with
  | true =>
    refine wpAny_isTrue_Not (ha.stepT R I f q fun F' α' st' b s' hs x I' f' q => ?_)
    exact PostE.after hs x (.here' I' (.d_boo _) q)
  | false =>
    refine wpAny_UnaryOp (ha.step R I f q fun F' α' st' av v s' hs x I' f' r q => ?_)
    exact not_of (truthy_A I' r q fun b tk q => PostE.after hs x (.here I' (.d_boo _) q))
theorem sem_bin {o : BO} {a b : X} {p : Pos} (ha : SemX Γ n env ns a) (hb : SemX Γ n env ns b) : SemX Γ n env ns (.bin o a b p) :=
  .mk (fun vs st Q => wpX Γ.P (CallOK Γ n) (NewOK Γ n) a false vs st fun x st => wpX Γ.P (CallOK Γ n) (NewOK Γ n) b false vs st fun y st => ∃ r, BinR o x y r ∧ Q r st) (fun _ _ _ _ h => h) rfl fun A s F α st vars oa Q R I f q => by
    refine wpAny_BinOp (ha.step R I f q fun F₁ α₁ st₁ x v s₁ hs x₁ I₁ f₁ r₁ q => hb.step R I₁ f₁ q fun F₂ α₂ st₂ y u s₂ hs₂ x₂ I₂ f₂ r₂ q => ?_)
    obtain ⟨r, e, q⟩ := q
    exact post_after (tr_trans hs hs₂) (x₁.trans x₂) (bin_A I₂ e (x₂.vr r₁) r₂ q)
theorem noMarks (P : Pg) (ns : List String) (o : CmpOp) (x : X) : behindInMarks o (toE P ns x) = false := by
  cases x <;> rfl
theorem sem_cmp {o : CmpOp} {a b : X} {p : Pos} (ha : SemX Γ n env ns a) (hb : SemX Γ n env ns b) : SemX Γ n env ns (.cmp o a b p) := by
  intro c A s F α st vars oa Q R I f q
  cases c with
  | true =>
    refine wpAny_isTrue_Compare1 (ha.step R I f q fun F₁ α₁ st₁ x v s₁ hs x₁ I₁ f₁ r₁ q => hb.step R I₁ f₁ q fun F₂ α₂ st₂ y u s₂ hs₂ x₂ I₂ f₂ r₂ q => ?_) (noMarks ..)
    obtain ⟨r, e, q⟩ := q
    refine cmp_A I₂ (room_u R) e (x₂.vr r₁) r₂ fun tk => truthy_D (st := st₂) (x := .boo r) (s := { s₂ with toks := tk }) I₂.agree (DR.boo r) (.boo r) fun tk' => ?_
    exact PostE.after (tr_trans hs hs₂) (x₁.trans x₂) (.here I₂ (.d_boo _) q)
  | false =>
    refine wpAny_Compare1 (ha.step R I f q fun F₁ α₁ st₁ x v s₁ hs x₁ I₁ f₁ r₁ q => hb.step R I₁ f₁ q fun F₂ α₂ st₂ y u s₂ hs₂ x₂ I₂ f₂ r₂ q => ?_) (noMarks ..)
    obtain ⟨r, e, q⟩ := q
    exact cmp_A I₂ (room_u R) e (x₂.vr r₁) r₂ fun tk => PostE.after (tr_trans hs hs₂) (x₁.trans x₂) (.here I₂ (.d_boo _) q)
theorem sem_ite {t a b : X} {p : Pos} (ht : SemX Γ n env ns t) (ha : SemX Γ n env ns a) (hb : SemX Γ n env ns b) : SemX Γ n env ns (.ite t a b p) := by
  intro c A s F α st vars oa Q R I f q
  cases c with
  | true =>
    show wpAny _ A (isTrue (.IfExp (toE Γ.P ns t) (toE Γ.P ns a) (toE Γ.P ns b) p) env _) _ _ s
    rw [arm_isTrue_IfExp]
    refine wpAny_bind (ht.stepT R I f q fun F' α' st' b s' hs x I' f' q => ?_)
    cases b with
    | true => exact post_afterB hs x (ha true A s' F' α' st' vars oa Q R I' f' q)
    | false => exact post_afterB hs x (hb true A s' F' α' st' vars oa Q R I' f' q)
  | false =>
    refine wpAny_IfExp (ht.stepT R I f q fun F' α' st' b s' hs x I' f' q => ?_)
    cases b with
    | true => exact post_after hs x (ha false A s' F' α' st' vars oa Q R I' f' q)
    | false => exact post_after hs x (hb false A s' F' α' st' vars oa Q R I' f' q)
end
end Mn
end
section
namespace Mn
section
variable {Γ : Wd} {n : Nat} {env : Env} {ns : List String}
noncomputable def AllS (Γ : Wd) (n : Nat) (env : Env) (ns : List String) : Xs → Prop
  | .nil => True
  | .cons x r => SemX Γ n env ns x ∧ AllS Γ n env ns r
theorem Xs.rec' {M : Xs → Prop} (nil : M .nil) (cons : ∀ x r, M r → M (.cons x r)) : ∀ xs, M xs
  | .nil => nil
  | .cons x r => cons x r (Xs.rec' nil cons r)
theorem starE (P : Pg) (x : X) (es : List PySem.Expr) (pos : Pos) : backTo pos (starEach (toE P ns x :: es) env) = (false, eval (toE P ns x) env) :: backTo pos (starEach es env) := by
  cases x <;> rfl
theorem sem_xs {xs : Xs} (h : AllS Γ n env ns xs) : SemXs Γ n env ns xs := by
  induction xs using Xs.rec' with
  | nil => exact fun A s F α st vars oa Q pos R I f w => Calls.spliced_nil ⟨F, α, st, [], s.toks, rfl, .refl _ _ _, I, .nil, w⟩
  | cons x r ih =>
    intro A s F α st vars oa Q pos R I f w
    show wpAny _ A (spliced (backTo pos (starEach (toE Γ.P ns x :: toEs Γ.P ns r) env))) _ _ s
    rw [starE]
    refine Calls.spliced_cons (h.1.step R I f w fun F₁ α₁ st₁ av v s₁ hs x₁ I₁ f₁ r₁ q => ?_)
    refine (ih h.2).step R I₁ f₁ q fun F₂ α₂ st₂ l vs s₂ hs₂ x₂ I₂ f₂ r₂ q => ?_
    obtain ⟨tk, e⟩ := tr_trans hs hs₂
    exact ⟨F₂, α₂, st₂, av :: l, tk, e, x₁.trans x₂, I₂, .cons (x₂.vr r₁) r₂, q⟩
theorem sem_ds {xs : Xs} (h : AllS Γ n env ns xs) : ∀ {A : Around} {s : Shared} {F : Fz} {α : List SA} {st : List AO} {vars : Vars} {oa : Nat → Addr} {Q : List D → List AO → Prop} {pos : Pos}, Room A n → Inv Γ F α st s.heap → Frm F α env ns vars oa s.heap →
    wpDs Γ.P (CallOK Γ n) (NewOK Γ n) xs vars st Q → ∀ {K : List Value → Shared → Prop},
    (∀ F' α' st' l vs s', (∃ tk, s' = { s with heap := s'.heap, toks := tk }) → ExtE F α s.heap F' α' s'.heap → Inv Γ F' α' st' s'.heap → Frm F' α' env ns vars oa s'.heap → DRs F' l vs → Q l st' → K vs s') →
    wpAny (model Γ.prog Γ.w) A (spliced (backTo pos (starEach (toEs Γ.P ns xs) env))) K NE s := by
  induction xs using Xs.rec' with
  | nil =>
    intro A s F α st vars oa Q pos R I f w K k
    exact Calls.spliced_nil (k F α st [] [] s ⟨s.toks, rfl⟩ (.refl _ _ _) I f .nil w)
  | cons x r ih =>
    intro A s F α st vars oa Q pos R I f w K k
    show wpAny _ A (spliced (backTo pos (starEach (toE Γ.P ns x :: toEs Γ.P ns r) env))) _ _ s
    rw [starE]
    refine Calls.spliced_cons (h.1.step R I f w fun F₁ α₁ st₁ av v s₁ hs x₁ I₁ f₁ r₁ q => ?_)
    cases av with
    | d y =>
      refine ih h.2 R I₁ f₁ q fun F₂ α₂ st₂ l vs s₂ hs₂ x₂ I₂ f₂ r₂ q => ?_
      exact k F₂ α₂ st₂ _ _ s₂ (tr_trans hs hs₂) (x₁.trans x₂) I₂ f₂ (.cons (DR.mono x₂.sub r₁) r₂) q
    | _ => exact q.elim
theorem sem_tup {xs : Xs} {k : Nat} {p : Pos} (h : AllS Γ n env ns xs) : SemX Γ n env ns (.tup xs k p) :=
  .mk (fun vs st Q => wpDs Γ.P (CallOK Γ n) (NewOK Γ n) xs vs st fun l st => l.length ≤ big ∧ Q (.d (.tup l)) st) (fun _ _ _ _ h => h) rfl fun A s F α st vars oa Q R I f q => by
    refine wpAny_Tuple (sem_ds h R I f q fun F₁ α₁ st₁ l vs s₁ hs x₁ I₁ f₁ r₁ q => ⟨?_, ?_⟩)
    · rw [← r₁.length]; exact q.1
    · exact PostE.after hs x₁ (post_made I₁ rfl (dr_tup_new I₁ r₁) q.2 s₁.toks)
theorem sem_lst {xs : Xs} {p : Pos} (h : AllS Γ n env ns xs) : SemX Γ n env ns (.lst xs p) :=
  .mk (fun vs st Q => wpDs Γ.P (CallOK Γ n) (NewOK Γ n) xs vs st fun l st => l.length ≤ big ∧ Q (.d (.lst l)) st) (fun _ _ _ _ h => h) rfl fun A s F α st vars oa Q R I f q => by
    refine wpAny_List (sem_ds h R I f q fun F₁ α₁ st₁ l vs s₁ hs x₁ I₁ f₁ r₁ q => ⟨?_, ?_⟩)
    · rw [← r₁.length]; exact q.1
    · exact PostE.after hs x₁ (post_made I₁ rfl (dr_lst_new I₁ r₁) q.2 s₁.toks)
theorem none_new {h : Heap} {a : Nat} (e : h.objs.size = a) : h.get? a = none := get_size h (lin (lq e))
theorem sem_newl {p : Pos} : SemX Γ n env ns (.newl p) :=
  .mk (fun _ st Q => Q (.ob st.length) (st ++ [AO.lst []])) (fun _ _ _ _ h => h) rfl fun A s F α st vars oa Q R I f q => by
    refine wpAny_List (Calls.spliced_nil ⟨Nat.zero_le _, ?_⟩)
    have g : (s.heap.push { cls := .type "list", data := .seq ([] : List Value).toArray }).get? s.heap.objs.size = some { cls := .type "list", data := .seq ([] : List Value).toArray } := Heap.get?_push_size s.heap rfl
    have hn := none_new (h := s.heap) rfl
    obtain ⟨I', x⟩ := I.alloc (h' := s.heap.push { cls := .type "list", data := .seq ([] : List Value).toArray }) (s.heap.objs.size, s.heap.objs.size) (.lst []) hn hn ⟨_, g⟩ ⟨_, g⟩
      (fun a o e => Heap.get?_push_of_some _ e) ⟨rfl, [], ⟨_, g⟩, .nil⟩
    exact ⟨F, _, _, .ob st.length, s.toks, rfl, x, I', ⟨(s.heap.objs.size, s.heap.objs.size), by rw [← I.len]; simp, rfl⟩, q⟩
theorem sem_newls {xs : Xs} {p : Pos} (h : AllS Γ n env ns xs) : SemX Γ n env ns (.newls xs p) :=
  .mk (fun vs st Q => wpDs Γ.P (CallOK Γ n) (NewOK Γ n) xs vs st fun l st => l.length ≤ big ∧ Q (.ob st.length) (st ++ [AO.lst l])) (fun _ _ _ _ h => h) rfl fun A s F α st vars oa Q R I f q => by
    refine wpAny_List (sem_ds h R I f q fun F₁ α₁ st₁ l vs s₁ hs x₁ I₁ f₁ r₁ q => ⟨?_, ?_⟩)
    · rw [← r₁.length]; exact q.1
    · have g : (s₁.heap.push { cls := .type "list", data := .seq vs.toArray }).get? s₁.heap.objs.size = some { cls := .type "list", data := .seq vs.toArray } := Heap.get?_push_size s₁.heap rfl
      have hn := none_new (h := s₁.heap) rfl
      obtain ⟨I', x⟩ := I₁.alloc (h' := s₁.heap.push { cls := .type "list", data := .seq vs.toArray }) (s₁.heap.objs.size, s₁.heap.objs.size) (.lst l) hn hn ⟨_, g⟩ ⟨_, g⟩
        (fun a o e => Heap.get?_push_of_some _ e) ⟨rfl, vs, ⟨_, g⟩, by have := DRs.mono (.refl F₁) r₁; exact this⟩
      exact PostE.after hs x₁ ⟨F₁, _, _, .ob st₁.length, s₁.toks, rfl, x, I', ⟨(s₁.heap.objs.size, s₁.heap.objs.size), by rw [← I₁.len]; simp, rfl⟩, q.2⟩
theorem sem_newd (W : WdOK Γ) {p : Pos} : SemX Γ n env ns (.newd p) :=
  .mk (fun _ st Q => Q (.ob st.length) (st ++ [AO.d0])) (fun _ _ _ _ h => h) rfl fun A s F α st vars oa Q R I f q => by
    refine wpAny_Dict_empty ?_
    have g : (s.heap.push { cls := .type "dict", data := .dict #[] }).get? s.heap.objs.size = some { cls := .type "dict", data := .dict #[] } := Heap.get?_push_size s.heap rfl
    have hn := none_new (h := s.heap) rfl
    have hm : (s.heap.objs.size == sysModules) = false := by
      obtain ⟨m, hl, r⟩ := W.lim
      exact beq_eq_false_iff_ne.mpr (Nat.ne_of_gt (modules_low ⟨m, ns_here I hl, r⟩))
    obtain ⟨I', x⟩ := I.alloc (h' := s.heap.push { cls := .type "dict", data := .dict #[] }) (s.heap.objs.size, s.heap.objs.size) .d0 hn hn ⟨_, g⟩ ⟨_, g⟩
      (fun a o e => Heap.get?_push_of_some _ e) ⟨rfl, hm, _, g⟩
    exact ⟨F, _, _, .ob st.length, s.toks, rfl, x, I', ⟨(s.heap.objs.size, s.heap.objs.size), by rw [← I.len]; simp, rfl⟩, q⟩
theorem base_plain (P : Pg) {a : X} (h : plainB a = true) (attr : Str) (env : Env) (whole : Sem Value) : attributeBase (toE P ns a) attr env whole = whole := by
  cases a <;> first | rfl | cases h
theorem sem_att (W : WdOK Γ) {a : X} {fd : Nat} {p : Pos} (ha : SemX Γ n env ns a) (hf : fd < Γ.P.flds.length) (hp : plainB a = true) : SemX Γ n env ns (.att a fd p) :=
  .mk (fun vs st Q => wpX Γ.P (CallOK Γ n) (NewOK Γ n) a false vs st fun v st => match insOf st v with | some (_, fs) => (match fget fs fd with | some r => Q r st | none => False) | none => False) (fun _ _ _ _ h => h) rfl fun A s F α st vars oa Q R I f q => by
    show wpAny _ A (eval (.Attribute (toE Γ.P ns a) (Γ.P.fld fd) p) env) _ _ s
    rw [arm_eval_Attribute, base_plain _ hp]
    refine wpAny_bind (ha.step R I f q fun F₁ α₁ st₁ av v s₁ hs x₁ I₁ f₁ r₁ q => ?_)
    cases e : insOf st₁ av with
    | none => rw [e] at q; exact q.elim
    | some cf =>
      rw [e] at q
      replace q : (match fget cf.2 fd with | some r => Q r st₁ | none => False) := q
      cases hg : fget cf.2 fd with
      | none => rw [hg] at q; exact q.elim
      | some r =>
        rw [hg] at q
        refine wpAny_bind (wpAny_standAt (wpAny_bind (wpAny_holding (wpAny_mono (attr_A W I₁ hf e hg r₁ q) (fun u s' p => ?_) fun _ _ e => e))))
        exact wpAny_bind (wpAny_letTemporaryGo (wpAny_pure (PostE.after hs x₁ p)))
theorem sub_plain (P : Pg) (i : X) (o u : Value) : subscripted (toE P ns i) false o u = operate [o, u] (getItem o u) := by
  cases i <;> rfl
theorem sem_idx {a i : X} {p : Pos} (ha : SemX Γ n env ns a) (hi : SemX Γ n env ns i) : SemX Γ n env ns (.idx a i p) :=
  .mk (fun vs st Q => wpX Γ.P (CallOK Γ n) (NewOK Γ n) a false vs st fun x st => wpX Γ.P (CallOK Γ n) (NewOK Γ n) i false vs st fun y st => ∃ r, IdxR st x y r ∧ Q r st) (fun _ _ _ _ h => h) rfl fun A s F α st vars oa Q R I f q => by
    refine Subscript_ (ha.step R I f q fun F₁ α₁ st₁ x v s₁ hs x₁ I₁ f₁ r₁ q => hi.step R I₁ f₁ q fun F₂ α₂ st₂ y u s₂ hs₂ x₂ I₂ f₂ r₂ q => ?_)
    obtain ⟨r, e, q⟩ := q
    exact post_after (tr_trans hs hs₂) (x₁.trans x₂) (idx_A I₂ e (x₂.vr r₁) r₂ q (sub_plain _ _))
theorem evalArgs_xs {M : Model} {A : Around} {E : Value → Shared → Prop} {s : Shared} {P : Pg} {fv : Value} {xs : Xs} {pos : Pos} {Q : Args → Shared → Prop} (h : wpAny M A (spliced (backTo pos (starEach (toEs P ns xs) env))) (fun vs s' => Q ⟨vs, []⟩ s') E s) : wpAny M A (evalArgs fv true (backTo pos (starEach (toEs P ns xs) env)) []) Q E s := by
  cases xs with
  | nil =>
    unfold evalArgs
    show wpAny M A (spliced [] >>= _) Q E s
    refine wpAny_bind (wpAny_mono h (fun vs s' h' => wpAny_bind (wpAny_pure ?_)) fun _ _ e => e)
    refine wpAny_holding ?_
    exact wpAny_bind (wpAny_pure (wpAny_bind (wpAny_pure (wpAny_pure h'))))
  | cons x r =>
    show wpAny _ A (evalArgs fv true (backTo pos (starEach (toE P ns x :: toEs P ns r) env)) []) _ _ s
    replace h : wpAny M A (spliced (backTo pos (starEach (toE P ns x :: toEs P ns r) env))) (fun vs s' => Q ⟨vs, []⟩ s') E s := h
    rw [starE] at h ⊢
    exact Calls.evalArgs_plain h
theorem plain_xs (P : Pg) (pos : Pos) (xs : Xs) : (backTo pos (starEach (toEs P ns xs) env)).any (·.1) = false := by
  induction xs using Xs.rec' with
  | nil => rfl
  | cons x r ih =>
    show (backTo pos (starEach (toE P ns x :: toEs P ns r) env)).any (·.1) = false
    rw [starE, List.any_cons, ih]; rfl
theorem callWith_fn {K : Frag} {M : Model} {A : Around} {E : Value → Shared → Prop} {s : Shared} {P : Pg} {fv : Value} {first : List Value} {xs : Xs} {pos p' : Pos} {Q : Value → Shared → Prop} (hk : keepIn K fv = true)
    (h : wpAny M A (spliced (backTo p' (starEach (toEs P ns xs) env))) (fun vs s' => K.In s'.heap ∧ wpAny M A (call fv (first ++ vs)) Q E s') E s) : wpAny M A (callWith pos fv first (backTo p' (starEach (toEs P ns xs) env)) []) Q E s :=
  callWith_of (P := fun h => K.In h) (by rw [plain_xs]; rfl) (fun h X => keeps_K hk h X) (evalArgs_xs h)
theorem callName {M : Model} {A : Around} {E : Value → Shared → Prop} {s : Shared} {P : Pg} {x : Str} {np pos : Pos} {xs : Xs} {Q : Value → Shared → Prop}
    (h : wpAny M A (eval (.Name x np) env) (fun f s₁ => wpAny M A (callWith pos f [] (backTo pos (starEach (toEs P ns xs) env)) []) Q E s₁) E s) :
    wpAny M A (eval (.Call (.Name x np) (toEs P ns xs) [] pos) env) Q E s := by
  show wpAny M A (do callWith pos (← eval (.Name x np) env) [] (backTo pos (starEach (toEs P ns xs) env)) (backToKw pos (keywordEach [] env))) Q E s
  exact wpAny_bind h
theorem sem_cal (W : WdOK Γ) (K : EOK env ns) {k : Nat} {xs : Xs} {np p : Pos} (h : AllS Γ n env ns xs) (hk : env.kindOf (Str.ofString ((Γ.P.fns.map (·.gname)).getD k "")) = some .globalImplicit) (hg : ((Γ.P.fns.map (·.gname)).getD k "" != "") = true) : SemX Γ n env ns (.cal k xs np p) :=
  .mk (fun vs st Q => wpXs Γ.P (CallOK Γ n) (NewOK Γ n) xs vs st fun l st => CallOK Γ n k l st Q) (fun _ _ _ _ h => h) rfl fun A s F α st vars oa Q R I f q => by
    show wpAny _ A (eval (.Call (.Name (Str.ofString ((Γ.P.fns.map (·.gname)).getD k "")) np) (toEs Γ.P ns xs) [] p) env) _ _ s
    rw [List.getD_eq_getElem?_getD, List.getElem?_map] at hk hg ⊢
    cases e : Γ.P.fns[k]? with
    | none => rw [e] at hg; exact absurd hg (by decide)
    | some fi =>
      rw [e] at hk hg
      have hg' : fi.gname ≠ "" := by simpa using hg
      obtain ⟨hd, hv⟩ := W.fnG k fi e hg'
      refine callName (ld_glob W K I hk hd hv (callWith_fn (W.fn k fi e).kp ?_))
      refine (sem_xs h).step R I f q fun F₁ α₁ st₁ l vs s₁ hs x₁ I₁ f₁ r₁ q => ⟨kin_here W I₁, ?_⟩
      obtain ⟨fi', e', c⟩ := q
      rw [e] at e'; cases e'
      exact post_after hs x₁ (wpAny_call (c A s₁ F₁ α₁ vs R I₁ r₁))
theorem sem_new (W : WdOK Γ) (K : EOK env ns) {k : Nat} {xs : Xs} {np p : Pos} (h : AllS Γ n env ns xs) (hk : env.kindOf (Str.ofString (Γ.P.clsN.getD k "")) = some .globalImplicit) (hc : k < Γ.P.clsN.length) (hc2 : k < Γ.P.clss.length) : SemX Γ n env ns (.new k xs np p) :=
  .mk (fun vs st Q => wpXs Γ.P (CallOK Γ n) (NewOK Γ n) xs vs st fun l st => NewOK Γ n k l st Q) (fun _ _ _ _ h => h) rfl fun A s F α st vars oa Q R I f q => by
    show wpAny _ A (eval (.Call (.Name (Str.ofString (Γ.P.clsN.getD k "")) np) (toEs Γ.P ns xs) [] p) env) _ _ s
    rw [List.getD_eq_getElem?_getD, List.getElem?_eq_getElem hc] at hk ⊢
    cases e : Γ.P.clss[k]? with
    | none => exact absurd (List.getElem?_eq_none_iff.mp e) (by omega)
    | some C =>
      obtain ⟨hd, hv⟩ := W.clG k C _ e (List.getElem?_eq_getElem hc)
      refine callName (ld_glob W K I hk hd hv (callWith_fn (W.cl k C e).kp ?_))
      refine (sem_xs h).step R I f q fun F₁ α₁ st₁ l vs s₁ hs x₁ I₁ f₁ r₁ q => ⟨kin_here W I₁, ?_⟩
      obtain ⟨C', e', c⟩ := q
      rw [e] at e'; cases e'
      exact post_after hs x₁ (wpAny_call (c A s₁ F₁ α₁ vs R I₁ r₁))
theorem callWith_bi {M : Model} {A : Around} {E : Value → Shared → Prop} {s : Shared} {P : Pg} {b : BI} {xs : Xs} {pos p' : Pos} {Q : Value → Shared → Prop}
    (h : wpAny M A (spliced (backTo p' (starEach (toEs P ns xs) env))) (fun vs s' => wpAny M A (call b.val vs) Q E s') E s) : wpAny M A (callWith pos b.val [] (backTo p' (starEach (toEs P ns xs) env)) []) Q E s := by
  cases b <;> first | exact Calls.callWith_builtin (plain_xs ..) (evalArgs_xs h) | exact PySem.callWith_type (plain_xs ..) (evalArgs_xs h)
theorem bi_dbg (b : BI) : (Str.ofString b.name == ("__debug__" : Str)) = false := by cases b <;> decide
theorem sem_bi (W : WdOK Γ) (K : EOK env ns) {b : BI} {xs : Xs} {np p : Pos} (h : AllS Γ n env ns xs) (hk : env.kindOf (Str.ofString b.name) = some .globalImplicit) : SemX Γ n env ns (.bi b xs np p) :=
  .mk (fun vs st Q => wpXs Γ.P (CallOK Γ n) (NewOK Γ n) xs vs st fun l st => ∃ r, BiR st b l r ∧ Q r st) (fun _ _ _ _ h => h) rfl fun A s F α st vars oa Q R I f q => by
    obtain ⟨hg, hv⟩ := W.bt b
    refine callName (ld_bltn W K I hk (bi_dbg b) hg hv (callWith_bi ?_))
    refine (sem_xs h).step R I f q fun F₁ α₁ st₁ l vs s₁ hs x₁ I₁ f₁ r₁ q => ?_
    obtain ⟨r, e, q⟩ := q
    exact post_after hs x₁ (bi_A R.1 I₁ e r₁ q)
theorem few_xs (P : Pg) (pos : Pos) (xs : Xs) : (backTo pos (starEach (toEs P ns xs) env)).all (fun x => !x.1) = true := by
  induction xs using Xs.rec' with
  | nil => rfl
  | cons x r ih =>
    show (backTo pos (starEach (toE P ns x :: toEs P ns r) env)).all (fun x => !x.1) = true
    rw [starE, List.all_cons, ih]; rfl
theorem len_xs (P : Pg) (xs : Xs) : (toEs P ns xs).length = xs.length := by
  induction xs using Xs.rec' with
  | nil => rfl
  | cons x r ih => exact congrArg Nat.succ ih
theorem methCall {M : Model} {A : Around} {E : Value → Shared → Prop} {s : Shared} {P : Pg} {a : X} {name : Str} {xs : Xs} {ap p : Pos} {Q : Value → Shared → Prop} (hp : plainB a = true) (hl : (ap.endLine == p.line) = true) (hn : xs.length < 30)
    (h : wpAny M A (eval (toE P ns a) env) (fun ov s₁ => wpAny M A (getMethod ov name (do return (← importBound (toE P ns a) env).getD true)) (fun fx s₂ => wpAny M A (callWith p fx.1 fx.2 (backTo p (starEach (toEs P ns xs) env)) []) Q E s₂) E s₁) E s) :
    wpAny M A (eval (.Call (.Attribute (toE P ns a) name ap) (toEs P ns xs) [] p) env) Q E s := by
  rw [arm_eval_Call, base_plain _ hp]
  refine wpAny_bind (wpAny_mono h (fun ov s₁ h₁ => wpAny_bind (wpAny_standAt ?_)) fun _ _ e => e)
  have hform : methodCallForm ((toEs P ns xs).length + ([] : List Keyword).length) (backTo p (starEach (toEs P ns xs) env)) (backToKw p (keywordEach [] env)) = true := by
    unfold methodCallForm
    rw [few_xs, len_xs]
    simp [backToKw, keywordEach]
    exact lin hn
  unfold methodCall
  rw [hform]
  refine wpAny_bind (wpAny_holding ?_)
  unfold calleeOf
  rw [if_pos rfl]
  refine wpAny_mono h₁ (fun fx s₂ h₂ => ?_) fun _ _ e => e
  have hpos : methodCallPos true (toE P ns a) env ap p = pure p := by unfold methodCallPos; simp [hl]
  exact wpAny_bind (wpAny_of_eq hpos h₂)
theorem sem_met (W : WdOK Γ) {a : X} {m : Nat} {xs : Xs} {ap p : Pos} (ha : SemX Γ n env ns a) (h : AllS Γ n env ns xs) (hp : plainB a = true) (hl : (ap.endLine == p.line) = true) (hn : xs.length < 30) : SemX Γ n env ns (.met a m xs ap p) :=
  .mk (fun vs st Q => wpX Γ.P (CallOK Γ n) (NewOK Γ n) a false vs st fun v st => match insOf st v with
    | some (k, _) => (match mthOf Γ.P k m with | some f => wpXs Γ.P (CallOK Γ n) (NewOK Γ n) xs vs st fun l st => CallOK Γ n f (v :: l) st Q | none => False)
    | none => False) (fun _ _ _ _ h => h) rfl fun A s F α st vars oa Q R I f q => by
    refine methCall hp hl hn (ha.step R I f q fun F₁ α₁ st₁ av v s₁ hs x₁ I₁ f₁ r₁ q => ?_)
    cases e : insOf st₁ av with
    | none => rw [e] at q; exact q.elim
    | some cf =>
      rw [e] at q
      replace q : (match mthOf Γ.P cf.1 m with | some f => wpXs Γ.P (CallOK Γ n) (NewOK Γ n) xs vars st₁ fun l st => CallOK Γ n f (av :: l) st Q | none => False) := q
      cases hm : mthOf Γ.P cf.1 m with
      | none => rw [hm] at q; exact q.elim
      | some fk =>
        rw [hm] at q
        refine method_A W I₁ e hm r₁ fun fi hfi => ?_
        refine callWith_fn (first := [v]) (W.fn fk fi hfi).kp ?_
        refine (sem_xs h).step R I₁ f₁ q fun F₂ α₂ st₂ l vs s₂ hs₂ x₂ I₂ f₂ r₂ q => ⟨kin_here W I₂, ?_⟩
        obtain ⟨fi', e', c⟩ := q
        rw [hfi] at e'; cases e'
        exact post_after (tr_trans hs hs₂) (x₁.trans x₂) (wpAny_call (c A s₂ F₂ α₂ (v :: vs) R I₂ (.cons (x₂.vr r₁) r₂)))
end
end Mn
end
section
namespace Mn
section
variable {Γ : Wd} {n : Nat} {env : Env} {ns : List String}
theorem boolE (o : BoolOp) {xs : Xs} (h : AllS Γ n env ns xs) : ∀ {A : Around} {s : Shared} {F : Fz} {α : List SA} {st : List AO} {vars : Vars} {oa : Nat → Addr} {Q : AV → List AO → Prop} {pos : Pos}, Room A n → Inv Γ F α st s.heap → Frm F α env ns vars oa s.heap →
    wpB Γ.P (CallOK Γ n) (NewOK Γ n) o xs false vars st Q → wpAny (model Γ.prog Γ.w) A (boolOp pos o (evalEach (toEs Γ.P ns xs) env)) (PostE Γ F α s Q) NE s := by
  induction xs using Xs.rec' with
  | nil => intro A s F α st vars oa Q pos R I f q; exact q.elim
  | cons x r ih =>
    cases r with
    | nil => intro A s F α st vars oa Q pos R I f q; exact h.1 false A s F α st vars oa Q R I f q
    | cons y r =>
      intro A s F α st vars oa Q pos R I f q
      show wpAny _ A (do
        let v ← eval (toE Γ.P ns x) env
        standAt pos
        let t ← holding [v] (truthy v)
        match o, t with
        | .And, false | .Or, true => pure v
        | _, _ => boolOp pos o (evalEach (toEs Γ.P ns (.cons y r)) env)) _ _ s
      refine wpAny_bind (h.1.step R I f q fun F₁ α₁ st₁ av v s₁ hs x₁ I₁ f₁ r₁ q => wpAny_bind (wpAny_standAt (wpAny_bind (wpAny_holding ?_))))
      refine truthy_A I₁ r₁ q fun b tk q => ?_
      have hs' : ∃ k, ({ s₁ with toks := tk } : Shared) = { s with heap := s₁.heap, toks := k } := by
        obtain ⟨k, hk⟩ := hs
        exact ⟨tk, by rw [hk]⟩
      by_cases hb : b = stp o
      · rw [if_pos hb] at q
        have : wpAny (model Γ.prog Γ.w) A (pure v) (PostE Γ F α s Q) NE { s₁ with toks := tk } := wpAny_pure (PostE.after (s₁ := { s₁ with toks := tk }) hs' x₁ (.here' I₁ r₁ q))
        subst hb
        cases o <;> exact this
      · rw [if_neg hb] at q
        have : wpAny (model Γ.prog Γ.w) A (boolOp pos o (evalEach (toEs Γ.P ns (.cons y r)) env)) (PostE Γ F α s Q) NE { s₁ with toks := tk } := post_after hs' x₁ (ih h.2 (s := { s₁ with toks := tk }) R I₁ f₁ q)
        cases o <;> cases b <;> first | exact this | exact absurd rfl hb
theorem boolT (o : BoolOp) {xs : Xs} (h : AllS Γ n env ns xs) : ∀ {A : Around} {s : Shared} {F : Fz} {α : List SA} {st : List AO} {vars : Vars} {oa : Nat → Addr} {Q : AV → List AO → Prop}, Room A n → Inv Γ F α st s.heap → Frm F α env ns vars oa s.heap →
    wpB Γ.P (CallOK Γ n) (NewOK Γ n) o xs true vars st Q → wpAny (model Γ.prog Γ.w) A (allTrue o (toEs Γ.P ns xs) env) (fun b s' => PostE Γ F α s Q (.bool b) s') NE s := by
  induction xs using Xs.rec' with
  | nil => intro A s F α st vars oa Q R I f q; exact q.elim
  | cons x r ih =>
    intro A s F α st vars oa Q R I f q
    show wpAny _ A (allTrue o (toE Γ.P ns x :: toEs Γ.P ns r) env) _ _ s
    rw [arm_allTrue_cons]
    cases r with
    | nil =>
      refine wpAny_bind (h.1.stepT R I f q fun F₁ α₁ st₁ b s₁ hs x₁ I₁ f₁ q => ?_)
      have : wpAny (model Γ.prog Γ.w) A (pure b) (fun b s' => PostE Γ F α s Q (.bool b) s') NE s₁ := wpAny_pure (PostE.after hs x₁ (.here' I₁ (.d_boo b) q))
      cases o <;> cases b <;> exact this
    | cons y r =>
      refine wpAny_bind (h.1.stepT R I f q fun F₁ α₁ st₁ b s₁ hs x₁ I₁ f₁ q => ?_)
      replace q : if b = stp o then Q (.d (.boo b)) st₁ else wpB Γ.P (CallOK Γ n) (NewOK Γ n) o (.cons y r) true vars st₁ Q := q
      by_cases hb : b = stp o
      · rw [if_pos hb] at q
        have : wpAny (model Γ.prog Γ.w) A (pure b) (fun b s' => PostE Γ F α s Q (.bool b) s') NE s₁ := wpAny_pure (PostE.after hs x₁ (.here' I₁ (.d_boo _) q))
        subst hb
        cases o <;> exact this
      · rw [if_neg hb] at q
        have : wpAny (model Γ.prog Γ.w) A (allTrue o (toEs Γ.P ns (.cons y r)) env) (fun b s' => PostE Γ F α s Q (.bool b) s') NE s₁ := post_afterB hs x₁ (ih h.2 R I₁ f₁ q)
        cases o <;> cases b <;> first | exact this | exact absurd rfl hb
theorem sem_bool {o : BoolOp} {xs : Xs} {p : Pos} (h : AllS Γ n env ns xs) : SemX Γ n env ns (.bool o xs p) := by
  intro c A s F α st vars oa Q R I f q
  cases c with
  | true => exact wpAny_isTrue_BoolOp (boolT o h R I f q)
  | false =>
    show wpAny _ A (eval (.BoolOp o (toEs Γ.P ns xs) p) env) _ _ s
    rw [arm_eval_BoolOp]
    exact boolE o h R I f q
theorem DG.dict {F : Fz} {α : List SA} {h : Heap} {p : SA} {ao : AO} {d : D} {r : Option D} (g : DG ao d r) (r : AOR Γ F α h p ao) : ∃ o, h.get? p.1 = some o ∧ o.cls = .type "dict" ∧ o.dict = none := by
  cases g with
  | s => obtain ⟨_, _, kvs, ⟨o, es', ep, ho, hc, hd, rr⟩, _⟩ := r; exact ⟨o, ho, hc.1, hc.2.1⟩
  | i => obtain ⟨_, _, kvs, ⟨o, es', ep, ho, hc, hd, rr⟩, _⟩ := r; exact ⟨o, ho, hc.1, hc.2.1⟩
  | t => obtain ⟨_, _, kvs, ⟨o, es', ep, ho, hc, hd, rr⟩, _⟩ := r; exact ⟨o, ho, hc.1, hc.2.1⟩
  | _ => obtain ⟨_, _, n, ho⟩ := r; exact ⟨_, ho, rfl, rfl⟩
theorem meth_builtin {A : Around} {s : Shared} {F : Fz} {α : List SA} {st : List AO} (I : Inv Γ F α st s.heap) {m : MB} {av : AV} {v : Value} (e : MbT st m av) (r : VR F α av v) {pl : Sem Bool} {Q : Value × List Value → Shared → Prop} (h : Q (.builtin m.id, [v]) s) :
    wpAny (model Γ.prog Γ.w) A (getMethod v (Str.ofString m.name) pl) Q NE s := by
  cases e with
  | lst ho hm =>
    obtain ⟨p, hp, rfl, _, vs, ⟨c, hl⟩, _⟩ := I.obj ho r
    cases m with
    | append => exact getMethod_builtin (T := "list") ⟨_, hl, rfl⟩ PySem.F.plainAttrs_list PySem.F.slot_list_append PySem.F.type_list_append (fun a ea => by cases ea; exact ⟨_, hl, rfl⟩) h
    | pop => exact getMethod_builtin (T := "list") ⟨_, hl, rfl⟩ PySem.F.plainAttrs_list PySem.F.slot_list_pop PySem.F.type_list_pop (fun a ea => by cases ea; exact ⟨_, hl, rfl⟩) h
    | reverse => exact getMethod_builtin (T := "list") ⟨_, hl, rfl⟩ PySem.F.plainAttrs_list PySem.F.slot_list_reverse PySem.F.type_list_reverse (fun a ea => by cases ea; exact ⟨_, hl, rfl⟩) h
    | _ => cases hm
  | get ho g =>
    obtain ⟨p, hp, rfl, R⟩ := I.obj ho r
    obtain ⟨o, hl, hc, hd⟩ := g.dict R
    exact getMethod_builtin (T := "dict") ⟨_, hl, hc⟩ PySem.F.plainAttrs_dict PySem.F.slot_dict_get PySem.F.type_dict_get (fun a ea => by cases ea; exact ⟨_, hl, hd⟩) h
  | str hm =>
    obtain ⟨x, t, rfl⟩ : ∃ x t, v = .str x t := by cases r; exact ⟨_, _, rfl⟩
    cases m with
    | join =>
      replace h : Q (.builtin "str.join", [.str x t]) s := h
      show wpAny _ A (getMethod (.str x t) "join" pl) Q NE s
      with_reducible exact GM.join h
    | split =>
      replace h : Q (.builtin "str.split", [.str x t]) s := h
      show wpAny _ A (getMethod (.str x t) "split" pl) Q NE s
      with_reducible exact GM.split h
    | startswith =>
      replace h : Q (.builtin "str.startswith", [.str x t]) s := h
      show wpAny _ A (getMethod (.str x t) "startswith" pl) Q NE s
      with_reducible exact getMethod_builtin (typeIs_str _ _ _) PySem.F.plainAttrs_str PySem.F.slot_str_startswith PySem.F.type_str_startswith (fun a ea => nomatch ea) h
    | _ => cases hm
theorem sem_mb {a : X} {m : MB} {xs : Xs} {ap p : Pos} (ha : SemX Γ n env ns a) (h : AllS Γ n env ns xs) (hp : plainB a = true) (hl : (ap.endLine == p.line) = true) (hn : xs.length < 30) : SemX Γ n env ns (.mb a m xs ap p) :=
  .mk (fun vs st Q => wpX Γ.P (CallOK Γ n) (NewOK Γ n) a false vs st fun v st => MbT st m v ∧ wpXs Γ.P (CallOK Γ n) (NewOK Γ n) xs vs st fun l st => ∃ r st', MbR st m v l r st' ∧ Q r st') (fun _ _ _ _ h => h) rfl fun A s F α st vars oa Q R I f q => by
    refine methCall hp hl hn (ha.step R I f q fun F₁ α₁ st₁ av v s₁ hs x₁ I₁ f₁ r₁ q => ?_)
    refine meth_builtin I₁ q.1 r₁ ?_
    refine Calls.callWith_builtin (plain_xs ..) (evalArgs_xs ?_)
    refine (sem_xs h).step R I₁ f₁ q.2 fun F₂ α₂ st₂ l vs s₂ hs₂ x₂ I₂ f₂ r₂ q => ?_
    obtain ⟨r, st₃, e, q⟩ := q
    exact post_after (tr_trans hs hs₂) (x₁.trans x₂) (mb_A (by have := room_u R; exact lin this) I₂ e (x₂.vr r₁) r₂ q)
end
section
variable {prog : Program} {w : World} {A : Around} {E : Value → Shared → Prop} {s : Shared}
theorem getItem_tuple_to {t sl : Addr} {items : Array Value} {k : Nat} {u : Tok} {Q : Value → Shared → Prop} (ht : s.heap.IsTuple t items) (hs : s.heap.IsSliceOf sl .none (.int k u) .none) (hsz : items.size ≤ sizeLine)
    (h1 : Q (.ref s.heap.objs.size) { s with heap := s.heap.push { cls := .type "tuple", data := .seq (items.toList.take k).toArray } }) (h2 : items.size ≤ k → Q (.ref t) s) :
    wpAny (model prog w) A (getItem (.ref t) (.ref sl)) Q E s := by
  have hT : IsTup s.heap t items := ht
  obtain ⟨os, hos, hcs, hds⟩ := id hs
  have hTs : s.TypeIs (.ref sl) "slice" := ⟨os, hos, hcs⟩
  unfold getItem
  try with_reducible refine wpAny_holding ?_
  first | refine wpAny_bind (wpAny_pure ?_) | skip
  refine wpAny_bind (wpAny_sequenceKey hT.typeIs (by decide) ?_)
  refine wpAny_bind (wpAny_callSpecial?_slot (name := Str.ofString "__getitem__") hT.typeIs slot_tuple_getitem
    (wpAny_call_entry slot_tuple_getitem hT.typeIs entry_tuple_getitem ?_ (args_tuple_getitem _ _)))
  show wpAny _ _ (Builtin.Tuple.tupleItemsOf (.ref t) >>= _) _ _ s
  refine wpAny_bind (tupleItemsOf_ hT ?_)
  refine wpAny_bind (wpAny_typeOf hTs ?_)
  rw [if_pos (by decide)]
  have e1 : Builtin.Slice.sliceAdjust none (some (k : Int)) 1 (items.size : Int) = (0, ((min k items.size : Nat) : Int)) := by
    unfold Builtin.Slice.sliceAdjust
    simp only [show ¬ ((1 : Int) < 0) by decide, show ¬ ((k : Int) < 0) by omega, if_false]
    congr 1
    omega
  have e2 : Builtin.Slice.slicePlaces 0 ((min k items.size : Nat) : Int) 1 = min k items.size := by
    unfold Builtin.Slice.slicePlaces
    simp only [show (1 : Int) > 0 by decide, if_true, Int.ediv_one]
    split <;> omega
  have ap : ∀ {A' : Around} {E' : Value → Shared → Prop} {Q' : Int × Int × Nat → Shared → Prop}, Q' (0, 1, min k items.size) s → wpAny (model prog w) A' (Builtin.Slice.sliceApplied (.ref sl) (pure (items.size : Int))) Q' E' s := by
    intro A' E' Q' q
    unfold Builtin.Slice.sliceApplied Builtin.Slice.sliceFields
    refine wpAny_bind (wpAny_bind (wpAny_field hos hds (x := .none) rfl (wpAny_bind (wpAny_field hos hds (x := .int k u) rfl (wpAny_bind (wpAny_field hos hds (x := .none) rfl (wpAny_pure ?_)))))))
    refine wpAny_bind (slicePart_none ?_)
    show wpAny _ _ (if ((1 : Int) == 0) = true then _ else _) _ _ s
    rw [if_neg (by decide)]
    refine wpAny_bind (slicePart_none (wpAny_bind (slicePart_int (wpAny_bind (wpAny_pure ?_)))))
    show wpAny _ _ (match Builtin.Slice.sliceAdjust none (some (k : Int)) 1 (items.size : Int) with | (lo, hi) => pure (lo, (1 : Int), Builtin.Slice.slicePlaces lo hi 1)) _ _ s
    rw [e1]
    show wpAny _ _ (pure ((0 : Int), (1 : Int), Builtin.Slice.slicePlaces 0 ((min k items.size : Nat) : Int) 1)) _ _ s
    rw [e2]
    exact wpAny_pure q
  refine wpAny_bind (ap ?_)
  have e3 : ((List.range (min k items.size)).filterMap fun (j : Nat) => items[((0 : Int) + (j : Int) * 1).toNat]?).toArray = (items.toList.take k).toArray := by
    have := pick_run items 0 (min k items.size)
    rw [List.filterMap_map] at this
    rw [show (fun (j : Nat) => items[((0 : Int) + (j : Int) * 1).toNat]?) = ((fun x => items[x]?) ∘ fun x => 0 + x) by funext j; simp, this, List.drop_zero]
    congr 1
    rw [← Array.length_toList]
    simp [List.take_eq_take_iff]
  have hd : sizeOk (.seq (items.toList.take k).toArray) := by
    show (items.toList.take k).toArray.size ≤ sizeLine
    rw [List.size_toArray, List.length_take, Array.length_toList]
    omega
  have fresh : ∀ {A' : Around} {E' : Value → Shared → Prop} {Q' : Fin → Shared → Prop}, Q' (.done (.ret (.ref s.heap.objs.size))) { s with heap := s.heap.push { cls := .type "tuple", data := .seq (items.toList.take k).toArray } } → wpAny (model prog w) A' (Builtin.Tuple.tupleExact ((List.range (min k items.size)).filterMap fun (j : Nat) => items[((0 : Int) + (j : Int) * 1).toNat]?).toArray >>= fun v => ret v) Q' E' s := by
    intro A' E' Q' q
    rw [e3]
    exact wpAny_bind (m := Builtin.Tuple.tupleExact _) (wpAny_newObj_type (wpAny_pure q) hd)
  show wpAny _ _ (if ((0 : Int) == 0 && (1 : Int) == 1 && (min k items.size) == items.size) = true then _ else _) _ _ s
  by_cases c : ((min k items.size) == items.size) = true
  · rw [if_pos (by rw [c]; rfl)]
    refine wpAny_bind (m := Builtin.Tuple.tupleIsExact (.ref t)) (wpAny_bind (wpAny_typeOf hT.typeIs (wpAny_pure ?_)))
    show wpAny _ _ (rule "tuple.getitem.whole" >>= fun _ => ret (.ref t)) _ _ s
    refine wpAny_bind (wpAny_rule ?_)
    exact wpAny_pure ⟨_, rfl, wpAny_pure (h2 (by have := eq_of_beq c; omega))⟩
  · rw [if_neg (by rw [eq_false_of_ne_true c]; exact Bool.false_ne_true)]
    exact fresh ⟨_, rfl, wpAny_pure h1⟩
end
section
variable {Γ : Wd} {n : Nat} {env : Env} {ns : List String}
theorem pick_to (vs : List Value) {k : Int} (h : 0 ≤ k) : slicePick vs.toArray none (some k) none = (vs.take k.toNat).toArray := by
  have e : sliceBounds none (some k) none vs.toArray.size = (((0 : Nat) : Int), ((min k.toNat vs.toArray.size : Nat) : Int), 1) := by
    simp only [sliceBounds, Option.getD_none, show (1 : Int) > 0 by decide, if_true, if_neg (show ¬ (k < 0) by omega)]
    congr 1
    congr 1
    omega
  rw [kmk_pick_nat _ e]
  show ((vs.drop 0).take (min k.toNat vs.toArray.size - 0)).toArray = _
  rw [List.drop_zero, Nat.sub_zero, List.size_toArray, kmk_take_min]
noncomputable def isLoc : X → Bool
  | .loc .. => true
  | _ => false
theorem sem_slcTo {a i : X} {sp p : Pos} (ha : SemX Γ n env ns a) (hi : SemX Γ n env ns i) : SemX Γ n env ns (.slcTo a i sp p) :=
  .mk (fun vs st Q => wpX Γ.P (CallOK Γ n) (NewOK Γ n) a false vs st fun x st => wpX Γ.P (CallOK Γ n) (NewOK Γ n) i false vs st fun y st => ∃ r, ToR x y r ∧ Q r st) (fun _ _ _ _ h => h) rfl fun A s F α st vars oa Q R I f q => by
    refine Subscript_ (ha.step R I f q fun F₁ α₁ st₁ x v s₁ hs x₁ I₁ f₁ r₁ q => wpAny_Slice ?_)
    rw [evalPart_none, evalPart_some]
    refine wpAny_pure (hi.step R I₁ f₁ q fun F₂ α₂ st₂ y u s₂ hs₂ x₂ I₂ f₂ r₂ q => wpAny_pure ?_)
    obtain ⟨r, e, q⟩ := q
    replace r₁ := x₂.vr r₁
    cases e with
    | @lst l k hk =>
      obtain ⟨b, vs, rfl, hl, hr⟩ := DR.lstAt I₂.agree r₁
      obtain ⟨t, rfl⟩ : ∃ t, u = .int k t := by cases r₂; exact ⟨_, rfl⟩
      have J := I₂.pushAny { cls := .type "slice", data := .fields #[.none, .int k t, .none] }
      refine post_after (s₁ := { s₂ with heap := s₂.heap.push { cls := .type "slice", data := .fields #[.none, .int k t, .none] } }) (tr_trans hs (tr_trans hs₂ ⟨_, rfl⟩)) (x₁.trans (x₂.trans (ext_keeps _ _ fun b o e => Heap.get?_push_of_some _ e))) ?_
      refine tail_any (hl.push _).typeIs slot_list_getitem.lookup (wpAny_getItem_list_slice (hl.push _) (Heap.IsSliceOf.new ..) .none (.int _ _) .none (by simp) ?_ (by rw [List.size_toArray, ← hr.length]; exact hk.2.2)) rfl
      rw [pick_to _ hk.1]
      exact post_made (s := { s₂ with heap := s₂.heap.push { cls := .type "slice", data := .fields #[.none, .int k t, .none] } }) J rfl (dr_lst_new (s := { s₂ with heap := s₂.heap.push { cls := .type "slice", data := .fields #[.none, .int k t, .none] } }) J (hr.take k.toNat)) q s₂.toks
    | @tup l k hk =>
      obtain ⟨b, vs, rfl, hl, hr⟩ := DR.tupAt I₂.agree r₁
      obtain ⟨t, rfl⟩ : ∃ t, u = .int k t := by cases r₂; exact ⟨_, rfl⟩
      obtain ⟨k, rfl⟩ := Int.eq_ofNat_of_zero_le hk.1
      have J := I₂.pushAny { cls := .type "slice", data := .fields #[.none, .int k t, .none] }
      refine post_after (s₁ := { s₂ with heap := s₂.heap.push { cls := .type "slice", data := .fields #[.none, .int k t, .none] } }) (tr_trans hs (tr_trans hs₂ ⟨_, rfl⟩)) (x₁.trans (x₂.trans (ext_keeps _ _ fun b o e => Heap.get?_push_of_some _ e))) ?_
      refine tail_any (hl.push _).typeIs slot_tuple_getitem.lookup (getItem_tuple_to (hl.push _) (Heap.IsSliceOf.new ..) (by rw [List.size_toArray, ← hr.length]; exact hk.2.2) ?_ fun hz => ?_) rfl
      · exact post_made (s := { s₂ with heap := s₂.heap.push { cls := .type "slice", data := .fields #[.none, .int k t, .none] } }) J rfl (dr_tup_new (s := { s₂ with heap := s₂.heap.push { cls := .type "slice", data := .fields #[.none, .int k t, .none] } }) J (hr.take k)) q s₂.toks
      · rw [List.size_toArray, ← hr.length] at hz
        rw [show (k : Int).toNat = k from rfl, List.take_of_length_le hz] at q
        exact PostE.here' J r₁ q
end
end Mn
end
section
namespace Mn
section
variable {Γ : Wd} {n : Nat} {env : Env} {ns : List String}
theorem walks_lt {prog : Program} {w : World} {A : Around} {I : Addr} {fp wr : List Addr} {n : Nat} {P : Nat → Value → Prop} {St : Nat → Heap → Prop} (W : Walks prog w A I fp wr n P St) : Walks prog w A I fp wr n (fun i v => P i v ∧ i < n) St where
  sub := W.sub
  frame := W.frame
  item := fun i s Q E hi st hQ => W.item i s Q E hi st fun v h' tk p => hQ v h' tk ⟨p, hi⟩
  done := W.done
  self := W.self
structure ItW (Γ : Wd) (A : Around) (F : Fz) (I : Addr) (l : List D) (fp : List Addr) (Pv : Nat → Value → Prop) (St : Nat → Heap → Prop) : Prop where
  wk : Walks Γ.prog Γ.w A I fp [I] l.length Pv St
  fp : ∀ b ∈ fp, b = I ∨ ∃ o, F b = some o
  val : ∀ i v, Pv i v → ∃ d, l[i]? = some d ∧ DR F d v
  lv : ∀ (i : Nat) (h : Heap), St i h → ∃ o, h.get? I = some o
  go : ∀ (i : Nat) (s : Shared) (y : List D) (v : Value) (elts : List PySem.Expr) (k : Nat) (pos : Pos) (Q : Unit → Shared → Prop) (E : Value → Shared → Prop), St i s.heap → (∃ j : Nat, l[j]? = some (D.tup y)) → Q () s → wpAny (model Γ.prog Γ.w) A (letOwnedTupleGo (.Tuple elts k pos) (.ref I) v) Q E s
theorem go_other {A : Around} {s : Shared} {I : Addr} {o : Obj} {nm : String} {elts : List PySem.Expr} {k : Nat} {pos : Pos} {v : Value} {Q : Unit → Shared → Prop} {E : Value → Shared → Prop} (ho : s.heap.get? I = some o) (hc : o.cls = .type nm)
    (hn : ["enumerate", "zip", "dict_itemiterator", "dict_reverseitemiterator", "odict_iterator", "itertools.zip_longest", "itertools.pairwise"].contains nm = false) (hQ : Q () s) :
    wpAny (model Γ.prog Γ.w) A (letOwnedTupleGo (.Tuple elts k pos) (.ref I) v) Q E s := by
  cases v with
  | ref T =>
    unfold letOwnedTupleGo
    refine wpAny_bind (wpAny_load ho ?_)
    rw [hc]
    split
    · rename_i nm' vs h1 h2
      cases h1
      rw [hn, Bool.false_and, if_neg Bool.false_ne_true]
      exact wpAny_pure hQ
    · exact wpAny_pure hQ
  | _ => exact wpAny_pure hQ
theorem itw_list {A : Around} (hh : A.handled = none) {F : Fz} {I ax : Addr} {l : List D} {vs : List Value} {o : Obj} (hne : ax ≠ I) (hF : F ax = some o) (hr : DRs F l vs) :
    ItW Γ A F I l [I, ax] (fun i v => vs.toArray[i]? = some v) (fun i h => h.IsListIter I ax i ∧ h.IsList ax vs.toArray) where
  wk := by
    have := Walks.list (prog := Γ.prog) (w := Γ.w) hh I ax hne vs.toArray
    rw [List.size_toArray, ← hr.length] at this
    exact this
  fp := fun b hb => by
    rcases List.mem_cons.mp hb with e | hb
    · exact .inl e
    · rw [List.mem_singleton] at hb; exact .inr ⟨o, hb ▸ hF⟩
  val := fun i v h => hr.get' i v (by simpa using h)
  lv := fun i h st => let ⟨⟨o, ho, _⟩, _⟩ := st; ⟨o, ho⟩
  go := fun i s y v elts k pos Q E st _ hQ => by
    obtain ⟨⟨o, ho, hc, _⟩, _⟩ := st
    exact go_other ho hc (by decide) hQ
theorem itw_tuple {A : Around} (hh : A.handled = none) {F : Fz} {I ax : Addr} {l : List D} {vs : List Value} {o : Obj} (hne : ax ≠ I) (hF : F ax = some o) (hr : DRs F l vs) :
    ItW Γ A F I l [I, ax] (fun i v => vs.toArray[i]? = some v) (fun i h => h.IsTupleIter I ax i ∧ h.IsTuple ax vs.toArray) where
  wk := by
    have := Walks.tuple (prog := Γ.prog) (w := Γ.w) hh I ax hne vs.toArray
    rw [List.size_toArray, ← hr.length] at this
    exact this
  fp := fun b hb => by
    rcases List.mem_cons.mp hb with e | hb
    · exact .inl e
    · rw [List.mem_singleton] at hb; exact .inr ⟨o, hb ▸ hF⟩
  val := fun i v h => hr.get' i v (by simpa using h)
  lv := fun i h st => let ⟨⟨o, ho, _⟩, _⟩ := st; ⟨o, ho⟩
  go := fun i s y v elts k pos Q E st _ hQ => by
    obtain ⟨⟨o, ho, hc, _⟩, _⟩ := st
    exact go_other ho hc (by decide) hQ
theorem itw_rev {A : Around} (hh : A.handled = none) {F : Fz} {I ax : Addr} {l : List D} {vs : List Value} {o : Obj} (hne : ax ≠ I) (hF : F ax = some o) (hr : DRs F l vs) :
    ItW Γ A F I l.reverse [I, ax] (fun i v => vs.toArray[vs.toArray.size - 1 - i]? = some v ∧ i < vs.toArray.size) (fun i h => i ≤ vs.toArray.size ∧ h.IsRevIter I ax ((vs.toArray.size : Int) - 1 - (i : Int)) ∧ h.IsList ax vs.toArray) where
  wk := by
    have W := walks_lt (Walks.listRev (prog := Γ.prog) (w := Γ.w) hh I ax hne vs.toArray)
    have e : l.reverse.length = vs.toArray.size := by rw [List.length_reverse, List.size_toArray, hr.length]
    rw [e]
    exact W
  fp := fun b hb => by
    rcases List.mem_cons.mp hb with e | hb
    · exact .inl e
    · rw [List.mem_singleton] at hb; exact .inr ⟨o, hb ▸ hF⟩
  val := fun i v h => by
    obtain ⟨h, hi⟩ := h
    refine hr.reverse.get' i v ?_
    rw [List.getElem?_reverse (by simpa using hi)]
    simpa using h
  lv := fun i h st => let ⟨_, ⟨o, ho, _⟩, _⟩ := st; ⟨o, ho⟩
  go := fun i s y v elts k pos Q E st _ hQ => by
    obtain ⟨_, ⟨o, ho, hc, _⟩, _⟩ := st
    exact go_other ho hc (by decide) hQ
theorem itw_str {A : Around} {F : Fz} {I : Addr} {x : List Nat} {St : Nat → Heap → Prop} (W : Walks Γ.prog Γ.w A I [I] [I] x.toArray.size (SignAt ⟨x.toArray⟩) St) (hlv : ∀ (i : Nat) (h : Heap), St i h → ∃ o, h.get? I = some o) :
    ItW Γ A F I (x.map fun c => .str [c]) [I] (SignAt ⟨x.toArray⟩) St where
  wk := by
    rw [List.length_map, ← List.size_toArray]
    exact W
  fp := fun b hb => .inl (List.mem_singleton.mp hb)
  val := fun i v h => by
    obtain ⟨c, u, hc, rfl⟩ := h
    refine ⟨.str [c], ?_, DR.str [c] u⟩
    rw [List.getElem?_map]
    have : x[i]? = some c := by simpa using hc
    rw [this]; rfl
  lv := hlv
  go := fun i s y v elts k pos Q E st h hQ => by
    obtain ⟨j, h⟩ := h
    rw [List.getElem?_map] at h
    cases e : x[j]? with
    | none => rw [e] at h; cases h
    | some c => rw [e] at h; cases h
theorem itw_range {A : Around} (hh : A.handled = none) {F : Fz} {I : Addr} {m : Nat} :
    ItW Γ A F I ((List.range m).map fun i => .int (Int.ofNat i)) [I] (fun i v => (∃ t, v = .int ((0 : Int) + i * 1) t) ∧ i < m) (fun i h => IsRangeIter h I ((0 : Int) + (i : Nat) * 1) ((m : Int) - (i : Nat)) 1) where
  wk := by
    rw [List.length_map, List.length_range]
    exact walks_lt (Walks.range hh I 0 1 m)
  fp := fun b hb => .inl (List.mem_singleton.mp hb)
  val := fun i v h => by
    obtain ⟨⟨t, rfl⟩, hi⟩ := h
    refine ⟨.int (Int.ofNat i), by rw [List.getElem?_map, List.getElem?_range hi]; rfl, ?_⟩
    have e : (0 : Int) + i * 1 = Int.ofNat i := by show (0 : Int) + (i : Int) * 1 = (i : Int); omega
    rw [e]
    exact DR.int _ _
  lv := fun i h st => ⟨_, st⟩
  go := fun i s y v elts k pos Q E st h hQ => by
    obtain ⟨j, h⟩ := h
    rw [List.getElem?_map] at h
    cases e : (List.range m)[j]? with
    | none => rw [e] at h; cases h
    | some c => rw [e] at h; cases h
noncomputable def ItP (Γ : Wd) (A : Around) (F : Fz) (α : List SA) (s : Shared) (Q : List D → List AO → Prop) (itv : Value) (s₂ : Shared) : Prop :=
  ∃ it F' α' st' l fp Pv St, itv = .ref it ∧ (∃ tk, s₂ = { s with heap := s₂.heap, toks := tk }) ∧ ExtE F α s.heap F' α' s₂.heap ∧ Inv Γ F' α' st' s₂.heap ∧ s.heap.get? it = none ∧ F' it = none ∧ it ∉ sAddrs α' ∧ ItW Γ A F' it l fp Pv St ∧ St 0 s₂.heap ∧ Q l st'
theorem none_back {X : Addr → Prop} {F F' : Fz} {α α' : List SA} {h h' : Heap} (x : Ext X F α h F' α' h') {a : Addr} (e : h'.get? a = none) : h.get? a = none := by
  cases e' : h.get? a with
  | none => rfl
  | some o => obtain ⟨o', h2⟩ := x.stay a o e'; rw [e] at h2; cases h2
theorem itp_new {A : Around} {F F₁ : Fz} {α α₁ : List SA} {st₁ : List AO} {s s₁ : Shared} {Q : List D → List AO → Prop} {o : Obj} {l : List D} {fp : List Addr} {Pv : Nat → Value → Prop} {St : Nat → Heap → Prop}
    (hs : ∃ tk, s₁ = { s with heap := s₁.heap, toks := tk }) (x : ExtE F α s.heap F₁ α₁ s₁.heap) (I : Inv Γ F₁ α₁ st₁ s₁.heap) (W : ItW Γ A F₁ s₁.heap.objs.size l fp Pv St) (h0 : St 0 (s₁.heap.push o)) (q : Q l st₁) :
    ItP Γ A F α s Q (.ref s₁.heap.objs.size) { s₁ with heap := s₁.heap.push o } := by
  have hn := none_new (h := s₁.heap) rfl
  exact ⟨_, F₁, α₁, st₁, l, fp, Pv, St, rfl, tr_trans hs ⟨_, rfl⟩, x.trans (ext_keeps _ _ fun b o e => Heap.get?_push_of_some _ e), I.pushAny o, none_back x hn, I.fnone hn, I.anone hn, W, h0, q⟩
theorem lst_obj {F : Fz} {l : List D} {v : Value} (r : DR F (.lst l) v) : ∃ a o vs n, v = .ref a ∧ F a = some o ∧ o.cls = .type "list" ∧ o.data = .seq (List.toArray vs) n ∧ DRs F l vs := by
  cases r with
  | lst h c e q => exact ⟨_, _, _, _, rfl, h, c, e, q⟩
theorem tup_obj {F : Fz} {l : List D} {v : Value} (r : DR F (.tup l) v) : ∃ a o vs n, v = .ref a ∧ F a = some o ∧ o.cls = .type "tuple" ∧ o.data = .seq (List.toArray vs) n ∧ DRs F l vs := by
  cases r with
  | tup h c e q => exact ⟨_, _, _, _, rfl, h, c, e, q⟩
noncomputable def kOK (env : Env) : IK → Prop
  | .over => True
  | .range .. => env.kindOf (Str.ofString "range") = some .globalImplicit
  | .rev .. => env.kindOf (Str.ofString "reversed") = some .globalImplicit
theorem one_arg {A : Around} {s : Shared} {x : X} {pos : Pos} {K : List Value → Shared → Prop} (h : wpAny (model Γ.prog Γ.w) A (eval (toE Γ.P ns x) env) (fun v s' => K [v] s') NE s) : wpAny (model Γ.prog Γ.w) A (spliced (backTo pos (starEach (toEs Γ.P ns (.cons x .nil)) env))) K NE s := by
  show wpAny _ A (spliced (backTo pos (starEach (toE Γ.P ns x :: []) env))) _ _ _
  rw [starE]
  exact Calls.spliced_cons (wpAny_mono h (fun _ _ q => Calls.spliced_nil q) fun _ _ e => e)
theorem iter_start (W : WdOK Γ) (EK : EOK env ns) {k : IK} {x : X} (hx : SemX Γ n env ns x) (hk : kOK env k) {A : Around} {s : Shared} {F : Fz} {α : List SA} {st : List AO} {vars : Vars} {oa : Nat → Addr} {Q : List D → List AO → Prop} (R : Room A n) (I : Inv Γ F α st s.heap) (f : Frm F α env ns vars oa s.heap)
    (w : wpX Γ.P (CallOK Γ n) (NewOK Γ n) x false vars st fun v st => ∃ l, ItR k v l ∧ Q l st) :
    wpAny (model Γ.prog Γ.w) A (eval (toIt Γ.P ns k x) env) (fun xv s₁ => wpAny (model Γ.prog Γ.w) A (pyIter xv) (ItP Γ A F α s Q) NE s₁) NE s := by
  cases k with
  | over =>
    refine hx.step R I f w fun F₁ α₁ st₁ av v s₁ hs x₁ I₁ f₁ r₁ q => ?_
    obtain ⟨l, e, q⟩ := q
    cases e with
    | lst =>
      obtain ⟨a, o, vs, c, rfl, hF, hc, hd, hr⟩ := lst_obj r₁
      have hl : s₁.heap.IsList a vs.toArray := ⟨o, I₁.agree _ _ hF, hc, c, hd⟩
      have hne : a ≠ s₁.heap.objs.size := Nat.ne_of_lt (Heap.lt_size (I₁.agree _ _ hF))
      exact wpAny_pyIter_list hl (itp_new hs x₁ I₁ (itw_list R.1 hne hF hr) ⟨⟨_, Heap.get?_push_size _ rfl, rfl, rfl⟩, hl.push _⟩ q)
    | tup =>
      obtain ⟨a, o, vs, c, rfl, hF, hc, hd, hr⟩ := tup_obj r₁
      have hl : s₁.heap.IsTuple a vs.toArray := ⟨o, I₁.agree _ _ hF, hc, c, hd⟩
      have hne : a ≠ s₁.heap.objs.size := Nat.ne_of_lt (Heap.lt_size (I₁.agree _ _ hF))
      exact wpAny_pyIter_tuple hl (itp_new hs x₁ I₁ (itw_tuple R.1 hne hF hr) ⟨⟨_, Heap.get?_push_size _ rfl, rfl, rfl⟩, hl.push _⟩ q)
    | @str y =>
      obtain ⟨t, rfl⟩ : ∃ t, v = .str ⟨y.toArray⟩ t := by cases r₁; exact ⟨_, rfl⟩
      cases ha : (⟨y.toArray⟩ : Str).cps.all (· < 128)
      · exact wpAny_pyIter_wide ha (itp_new hs x₁ I₁ (itw_str (Walks.strWide R.1 _ ⟨y.toArray⟩ t) fun i h st => let ⟨o, ho, _⟩ := st; ⟨o, ho⟩) ⟨_, Heap.get?_push_size _ rfl, rfl, rfl⟩ q)
      · exact wpAny_pyIter_ascii ha (itp_new hs x₁ I₁ (itw_str (Walks.strAscii R.1 _ ⟨y.toArray⟩ t) fun i h st => let ⟨o, ho, _⟩ := st; ⟨o, ho⟩) ⟨_, Heap.get?_push_size _ rfl, rfl, rfl⟩ q)
  | range np p =>
    obtain ⟨hg, hv⟩ := W.br
    refine callName (xs := .cons x .nil) (ld_bltn W EK I hk (by decide) hg hv (PySem.callWith_type (plain_xs (ns := ns) Γ.P _ (.cons x .nil)) (evalArgs_xs (ns := ns) (P := Γ.P) (xs := .cons x .nil) (one_arg ?_))))
    refine hx.step R I f w fun F₁ α₁ st₁ av v s₁ hs x₁ I₁ f₁ r₁ q => ?_
    obtain ⟨l, e, q⟩ := q
    cases e with
    | @range m _ _ hm =>
      obtain ⟨t, rfl⟩ : ∃ t, v = .int m t := by cases r₁; exact ⟨_, rfl⟩
      refine call_range_1 (wpAny_pyIter_range (IsRange.new ..) ?_ ?_)
      · exact small_one (by decide) (by decide) (by omega) (by omega)
      · refine itp_new (s₁ := { s₁ with heap := s₁.heap.push { cls := .type "range", data := .fields #[.int 0 s₁.toks, .int m t, .int 1 (s₁.toks + 1)] }, toks := s₁.toks + 1 + 1 }) (tr_trans hs ⟨_, rfl⟩) (x₁.trans (ext_keeps _ _ fun b o e => Heap.get?_push_of_some _ e)) (I₁.pushAny _) (itw_range R.1 (m := m.toNat)) ?_ q
        have e : Builtin.Range.rangeSize 0 m 1 = ((m.toNat : Nat) : Int) := by
          rw [rangeSize_one]
          split <;> omega
        rw [e]
        have e2 : ((m.toNat : Nat) : Int) - ((0 : Nat) : Int) = ((m.toNat : Nat) : Int) := Int.sub_zero _
        show IsRangeIter _ _ ((0 : Int) + ((0 : Nat) : Int) * 1) (((m.toNat : Nat) : Int) - ((0 : Nat) : Int)) 1
        rw [e2]
        exact Heap.get?_push_size _ rfl
  | rev np p =>
    obtain ⟨hg, hv⟩ := W.bv
    refine callName (xs := .cons x .nil) (ld_bltn W EK I hk (by decide) hg hv (PySem.callWith_type (plain_xs (ns := ns) Γ.P _ (.cons x .nil)) (evalArgs_xs (ns := ns) (P := Γ.P) (xs := .cons x .nil) (one_arg ?_))))
    refine hx.step R I f w fun F₁ α₁ st₁ av v s₁ hs x₁ I₁ f₁ r₁ q => ?_
    obtain ⟨l, e, q⟩ := q
    cases e with
    | rev =>
      obtain ⟨a, o, vs, c, rfl, hF, hc, hd, hr⟩ := lst_obj r₁
      have hl : s₁.heap.IsList a vs.toArray := ⟨o, I₁.agree _ _ hF, hc, c, hd⟩
      have hne : a ≠ s₁.heap.objs.size := Nat.ne_of_lt (Heap.lt_size (I₁.agree _ _ hF))
      have hrev : (s₁.heap.push (revObj a ((vs.toArray.size : Int) - 1))).IsRevIter s₁.heap.objs.size a ((vs.toArray.size : Int) - 1) := ⟨_, Heap.get?_push_size _ rfl, rfl, rfl⟩
      refine call_reversed_list hl (wpAny_pyIter_revIter hrev ?_)
      refine itp_new hs x₁ I₁ (itw_rev R.1 hne hF hr) ⟨Nat.zero_le _, ?_, hl.push _⟩ q
      simpa using hrev
end
end Mn
end
section
namespace Mn
theorem nolen_lr : typeLookup (.type "list_reverseiterator") "__len__" = pure none := by rw [typeLookup_type, builtinLookup_eq_fast]; kernel_rfl
theorem hint_lr : typeLookup (.type "list_reverseiterator") "__length_hint__" = pure (some (.builtin "list_reverseiterator.__length_hint__")) := by rw [typeLookup_type, builtinLookup_eq_fast]; kernel_rfl
section
variable {prog : Program} {w : World} {A : Around} {E : Value → Shared → Prop} {s : Shared} {I : Addr} {fp wr : List Addr} {G : Array GenState → Array GenState → Prop} {n : Nat} {P : Nat → Value → Prop} {St : Nat → Shared → Prop}
theorem collect_rev {Q : List Value → Shared → Prop}
    (W : WalksS prog w A.in1 I fp wr G n P St) (hT : ∀ i s, St i s → s.TypeIs (.ref I) "list_reverseiterator") (hst : St 0 s) (hfp : ∀ b ∈ fp, b < s.heap.objs.size) (hI : I ∈ fp)
    (hQ : ∀ s' acc, Moved wr G s s' → ItemsOf P acc n → Q acc.toList s') (hn : n ≤ sizeLine) : wpAny (model prog w) A (collect (.ref I)) Q E s := by
  have hSf : s.heap.objs.size ∉ fp := fun hm => Nat.lt_irrefl _ (hfp _ hm)
  have hSI : s.heap.objs.size ≠ I := fun e => hSf (e ▸ hI)
  unfold collect
  refine wpAny_bind (wpAny_runValue (codeAny_builtin F.entry_proto_collect ?_))
  rw [Around.under_plainId F.plain_proto_collect _]
  show wpAny _ A.in1 (newList [] >>= fun l => again (.builtin "list.__iadd__" ⟨[l, .ref I], []⟩)) _ _ s
  refine wpAny_bind (wpAny_newObj_type ?_)
  refine wpAny_pure ⟨plainId_quiet F.plain_list_iadd _, codeAny_builtin F.entry_list_iadd ?_⟩
  rw [Around.under_plainId F.plain_list_iadd _]
  have hst₁ := W.frame 0 s (s.heap.push { cls := .type "list", data := .seq ([] : List Value).toArray }) s.toks hst (Nat.le_refl _) fun b _ o e => Heap.get?_push_of_some _ e
  have hS₁ : (s.heap.push { cls := .type "list", data := .seq ([] : List Value).toArray }).get? s.heap.objs.size = some { cls := .type "list", data := .seq ([] : List Value).toArray } := Heap.get?_push_size _ rfl
  have h1 : Builtin.List.listSameRef (.ref s.heap.objs.size) (.ref I) = false := by simp [Builtin.List.listSameRef, hSI]
  show wpAny _ A.in1 (Builtin.List.listExtendWith (.ref s.heap.objs.size) (.ref I) (.ref s.heap.objs.size)) _ _ _
  unfold Builtin.List.listExtendWith
  refine wpAny_bind (wpAny_typeOf (hT 0 _ hst₁) ?_)
  rw [if_neg (by rw [h1]; decide)]
  refine wpAny_bind (W.self 0 _ _ _ hst₁ ?_)
  refine wpAny_bind (wpAny_holding ?_)
  unfold Builtin.List.listLengthHint
  refine wpAny_bind (wpAny_specialOf (hT 0 _ hst₁) nolen_lr ?_)
  show wpAny _ A.in1 (specialOf (Value.ref I) (Str.ofString "__length_hint__") >>= _) _ _ _
  refine wpAny_bind (wpAny_specialOf (hT 0 _ hst₁) hint_lr ?_)
  (generalize hid : ("list_reverseiterator.__length_hint__" : String) = id0; (fail_if_success (clear hid id0)); wp_delta; rw [show splitId id0 = some ("list_reverseiterator", "__length_hint__") from by subst hid; decide +kernel]; subst hid)
  refine wpAny_bind (wpAny_isInstance (b := true) (hT 0 _ hst₁) (by rw [isSubtype_type]; kernel_rfl) ?_)
  refine wpAny_pure ?_
  rw [if_neg (by decide)]
  refine wpAny_pure ⟨plainId_quiet F.plain_extend_loop _, codeAny_extend_loopS W hn _ hSf _ n 0 _ _ _ rfl (Nat.zero_le _) hst₁ hS₁ (ItemsOf.nil P) fun s' acc' c' hm hS' hacc => ?_⟩
  show wpAny _ A (load s.heap.objs.size >>= _) _ _ s'
  refine wpAny_bind (wpAny_load hS' ?_)
  exact wpAny_pure (hQ s' acc' (Moved.drop_new (o := { cls := .type "list", data := .seq ([] : List Value).toArray }) (tk := s.toks) hm (Nat.le_refl _)) hacc)
open Builtin Builtin.Str Builtin.Int in
theorem join_rev {x : Str} {t : Tok} {Q : Value → Shared → Prop} (W : WalksS prog w A.in1.in1 I fp wr G n P St) (hT : ∀ i s, St i s → s.TypeIs (.ref I) "list_reverseiterator") (hst : St 0 s) (hfp : ∀ b ∈ fp, b < s.heap.objs.size) (hI : I ∈ fp)
    (hstr : ∀ i v, P i v → ∃ y u, v = Value.str y u)
    (hq : ∀ s' (l : List (Str × Tok)), Moved wr G s s' → ItemsOf P (strValues l).toArray n → JoinOk x (l.map (·.1)) = true ∧ ∀ t' k, Q (.str (Txt.join x (l.map (·.1))) t') { s' with toks := k })
    (hsz : n ≤ sizeLine) :
    wpAny (model prog w) A (call (.builtin "str.join") [.str x t, .ref I]) Q E s := by
  refine wpAny_call (codeAny_call_builtin F.slot_str_join.plain F.entry_str_join (F.slot_str_join.check _ _ _ _ _ _ _ _ (typeIs_str _ _ _) (F.args_str_join_2 _ _) ?_))
  rw [join_tree_other]
  refine wpAny_bind (wpAny_typeOf (hT 0 s hst) ?_)
  show wpAny _ A.in1 ((pyIter (.ref I)).tryCatch _ >>= fun it => collect it >>= fun items => joinTail x items) _ _ s
  refine wpAny_bind (wpAny_tryCatch (W.of_in1.self 0 s _ _ hst ?_))
  refine wpAny_bind (collect_rev W hT hst hfp hI (fun s' acc hm hacc => ?_) hsz)
  obtain ⟨l, hl⟩ := exists_strValues acc.toList fun v hv => by
    obtain ⟨j, hj, rfl⟩ := Array.mem_iff_getElem.mp (Array.mem_toList_iff.mp hv)
    exact hstr j _ (hacc.2 j _ (Array.getElem?_eq_getElem hj))
  rw [← hl]
  have hacc' : ItemsOf P (strValues l).toArray n := by rw [hl]; simpa using hacc
  obtain ⟨hok, hpost⟩ := hq s' l hm hacc'
  unfold JoinOk at hok
  rw [Bool.not_eq_true'] at hok
  have g : Gives (joinTail x (strValues l)) (joinMade x l) := by
    have g0 := gives_joinTail x l hok
    cases l with
    | nil => exact g0
    | cons p r => cases r with
      | nil => exact g0
      | cons q r' => exact g0
  exact g prog w A (wants Q E) s' (post_join l ⟨joinFit_length hok, hpost⟩)
end
section
variable {Γ : Wd} {n : Nat} {env : Env} {ns : List String}
theorem strV_inj : ∀ {l m : List (Str × Tok)}, strValues l = strValues m → l = m
  | [], [], _ => rfl
  | [], _ :: _, h => nomatch h
  | _ :: _, [], h => nomatch h
  | (a, t) :: l, (b, u) :: m, h => by
    have h : Value.str a t :: strValues l = Value.str b u :: strValues m := h
    injection h with h1 h2
    injection h1 with h3 h4
    rw [h3, h4, strV_inj h2]
theorem sem_jrev (W : WdOK Γ) (EK : EOK env ns) {a l : X} {ap np cp p : Pos} (ha : SemX Γ n env ns a) (hx : SemX Γ n env ns l) (hp : plainB a = true) (hl : (ap.endLine == p.line) = true) (hk : env.kindOf (Str.ofString "reversed") = some .globalImplicit) : SemX Γ n env ns (.jrev a l ap np cp p) :=
  .mk (fun vs st Q => wpX Γ.P (CallOK Γ n) (NewOK Γ n) a false vs st fun x st => MbT st .join x ∧ wpX Γ.P (CallOK Γ n) (NewOK Γ n) l false vs st fun y st => ∃ r, JrR x y r ∧ Q r st) (fun _ _ _ _ h => h) rfl fun A s F α st vars oa Q R I f q => by
    refine methCall (xs := .cons (.bi .rev (.cons l .nil) np cp) .nil) (name := Str.ofString "join") hp hl (by show 1 < 30; decide) (ha.step R I f q fun F₁ α₁ st₁ av v s₁ hs x₁ I₁ f₁ r₁ q => ?_)
    refine meth_builtin (m := .join) I₁ q.1 r₁ ?_
    refine Calls.callWith_builtin (plain_xs ..) (evalArgs_xs ?_)
    show wpAny _ A (spliced (backTo _ (starEach (toE Γ.P ns (.bi .rev (.cons l .nil) np cp) :: toEs Γ.P ns .nil) env))) _ _ _
    rw [starE]
    refine Calls.spliced_cons ?_
    obtain ⟨hg, hv⟩ := W.bv
    refine callName (xs := .cons l .nil) (ld_bltn W EK I₁ hk (by decide) hg hv (PySem.callWith_type (plain_xs (ns := ns) Γ.P _ (.cons l .nil)) (evalArgs_xs (ns := ns) (P := Γ.P) (xs := .cons l .nil) (one_arg ?_))))
    refine hx.step R I₁ f₁ q.2 fun F₂ α₂ st₂ bv u s₂ hs₂ x₂ I₂ f₂ r₂ q => ?_
    obtain ⟨r, e, q⟩ := q
    replace r₁ := x₂.vr r₁
    cases e with
    | @mk ss sep hz hj =>
      obtain ⟨t, rfl⟩ : ∃ t, v = .str ⟨sep.toArray⟩ t := by cases r₁; exact ⟨_, rfl⟩
      obtain ⟨b, o, vs, c, rfl, hF, hc, hd, hr⟩ := lst_obj r₂
      have hlst : s₂.heap.IsList b vs.toArray := ⟨o, I₂.agree _ _ hF, hc, c, hd⟩
      have hne : b ≠ s₂.heap.objs.size := Nat.ne_of_lt (Heap.lt_size (I₂.agree _ _ hF))
      have hlen : vs.length = ss.length := by rw [← hr.length, List.length_map]
      refine call_reversed_list hlst (Calls.spliced_nil ?_)
      have hrev : (s₂.heap.push (revObj b ((vs.toArray.size : Int) - 1))).IsRevIter s₂.heap.objs.size b ((vs.toArray.size : Int) - 1) := ⟨_, Heap.get?_push_size _ rfl, rfl, rfl⟩
      have old : ∀ a o, s₂.heap.get? a = some o → (s₂.heap.push (revObj b ((vs.toArray.size : Int) - 1))).get? a = some o := fun a o e => Heap.get?_push_of_some _ e
      have WK := Walks.listRev (prog := Γ.prog) (w := Γ.w) (A := A.in1.in1) R.1 s₂.heap.objs.size b hne vs.toArray
      refine join_rev WK.toS (fun i s st => let ⟨_, ⟨o, ho, hc, _⟩, _⟩ := st; ⟨o, ho, hc⟩) ⟨Nat.zero_le _, by simpa using hrev, hlst.push _⟩ (fun a ha => ?_) List.mem_cons_self (fun i v hi => ?_) (fun s' lx hm hit => ?_) (by rw [List.size_toArray, hlen]; exact hz)
      · rcases List.mem_cons.mp ha with e | ha
        · rw [e, Heap.size_push]; exact Nat.lt_succ_self _
        · rw [List.mem_singleton.mp ha, Heap.size_push]; exact Nat.lt_succ_of_lt (Heap.lt_size (I₂.agree _ _ hF))
      · have hm : v ∈ vs := by
          have := List.mem_of_getElem? (l := vs) (i := vs.toArray.size - 1 - i) (by simpa using hi)
          exact this
        obtain ⟨ys, e1, e2⟩ := strsAre_values (strs_are hr)
        rw [e1] at hm
        obtain ⟨q, _, rfl⟩ := List.mem_map.mp hm
        exact ⟨_, _, rfl⟩
      · have key : strValues lx = vs.reverse := by
          refine List.ext_getElem? fun j => ?_
          have hsz : (strValues lx).length = vs.length := by have := hit.1; simpa using this
          by_cases hj : j < vs.length
          · have h1 : (strValues lx).toArray[j]? = some ((strValues lx)[j]'(lin (ad (lq hsz.symm) hj))) := by simp [hsz, hj]
            have h2 := hit.2 j _ h1
            rw [List.getElem?_reverse hj, List.getElem?_eq_getElem (lin (ad (lq hsz.symm) hj))]
            rw [List.size_toArray] at h2
            simpa using h2.symm
          · rw [List.getElem?_eq_none (lin (ad (lq hsz) (Nat.le_of_not_lt hj))), List.getElem?_eq_none (by rw [List.length_reverse]; exact lin (Nat.le_of_not_lt hj))]
        have hr' : DRs F₂ (ss.reverse.map .str) vs.reverse := by rw [List.map_reverse]; exact hr.reverse
        obtain ⟨ys, e1, e2⟩ := strsAre_values (strs_are hr')
        have el : lx = ys := strV_inj (key.trans e1)
        rw [el, e2]
        have hlens : (ss.reverse.map sKey).map (·.length) = ss.reverse.map (·.length) := by rw [List.map_map]; exact List.map_congr_left fun x _ => str_len x
        refine ⟨joinOk_of ?_, fun t' k => ?_⟩
        · rw [hlens, List.length_map, List.length_reverse, str_len]; exact hj
        · have kk : ∀ a o, s₂.heap.get? a = some o → s'.heap.get? a = some o := fun a o e => hm.heap a o (fun c => by rw [List.mem_singleton] at c; subst c; rw [none_new rfl] at e; cases e) (old a o e)
          refine PostE.after (tr_trans hs hs₂) (x₁.trans x₂) ?_
          have es : ({ s' with toks := k } : Shared) = { s₂ with heap := s'.heap, toks := k } := by
            cases s'
            obtain ⟨h1, h2, h3, h4, h5⟩ := hm
            cases h2; cases h3; cases h4; rfl
          rw [es]
          have e3 : Txt.join (sKey sep) (ss.reverse.map sKey) = sKey (joinN sep ss.reverse) := by
            show Builtin.Str.glued (sKey sep) (ss.reverse.map sKey) = _
            rw [StrLaws.glued_eq_join, join_key]
          show PostE Γ F₂ α₂ s₂ Q (.str (Txt.join (sKey sep) (ss.reverse.map sKey)) t') _
          rw [e3]
          exact ⟨F₂, α₂, st₂, _, k, rfl, ext_keeps F₂ α₂ kk, I₂.keeps kk, .d_str _ _, q⟩
end
end Mn
end
section
namespace Mn
structure Sg where
  ns : List String
  nm : List (Str × NameKind)
noncomputable def Sg.k (g : Sg) (x : Str) (k : NameKind) : Bool := g.nm.lookup x == some k
noncomputable def Sg.g (g : Sg) (x : Str) : Bool := g.k x .globalImplicit
structure GOK (g : Sg) (env : Env) (ns : List String) : Prop where
  ns : g.ns = ns
  kd : ∀ x k, g.nm.lookup x = some k → env.kindOf x = some k
theorem GOK.k {g : Sg} {env : Env} {ns : List String} (G : GOK g env ns) {x : Str} {k : NameKind} (h : g.k x k = true) : env.kindOf x = some k := G.kd x k (eq_of_beq h)
noncomputable def locsF : Nat → List (Nat × Pos) → Xs
  | _, [] => .nil
  | k, q :: r => .cons (.loc k q.2) (locsF (k + 1) r)
noncomputable def eIR : E0 → X
  | .met _ _ m op ap xp p => .met (.loc 1 op) m (.cons (.loc 0 xp) .nil) ap p
  | .cal f _ cs np xp p => .cal f (.cons (.loc 0 xp) (locsF 1 cs)) np p
noncomputable def capN (ns : List String) (e : E0) : List String := e.caps.map fun i => ns.getD i ""
noncomputable def eNs (ns : List String) (e : E0) : List String := e.x :: capN ns e
theorem getD_mid {α : Type} (l : List α) (x d : α) (r : List α) : (l ++ x :: r).getD l.length d = x := by
  rw [List.getD_eq_getElem?_getD, List.getElem?_append_right (Nat.le_refl _), Nat.sub_self]; rfl
theorem locs_eq (P : Pg) (ns : List String) : ∀ (cs : List (Nat × Pos)) (pre : List String), toEs P (pre ++ cs.map fun q => ns.getD q.1 "") (locsF pre.length cs) = cs.map fun q => .Name (Str.ofString (ns.getD q.1 "")) q.2 := by
  intro cs
  induction cs with
  | nil => intro _; rfl
  | cons q r ih =>
    intro pre
    show nmE (pre ++ ns.getD q.1 "" :: r.map _) pre.length q.2 :: toEs P (pre ++ ns.getD q.1 "" :: r.map _) (locsF (pre.length + 1) r) = _
    have := ih (pre ++ [ns.getD q.1 ""])
    rw [List.length_append, List.append_assoc] at this
    rw [List.map_cons, ← this]
    unfold nmE
    rw [getD_mid]; rfl
theorem eIR_eq (P : Pg) (ns : List String) (e : E0) : toE P (eNs ns e) (eIR e) = toE0 P ns e := by
  cases e with
  | met => rfl
  | cal f x cs np xp p =>
    have := locs_eq P ns cs [x]
    show PySem.Expr.Call _ (.Name (Str.ofString x) xp :: toEs P ([x] ++ (cs.map (·.1)).map fun i => ns.getD i "") (locsF 1 cs)) [] p = _
    rw [List.map_map]
    exact congrArg (fun l => PySem.Expr.Call (.Name (Str.ofString ((P.fns.map (·.gname)).getD f "")) np) (.Name (Str.ofString x) xp :: l) [] p) this
theorem locs_wp {P : Pg} {C N : CallT} {st : List AO} {Q : List AV → List AO → Prop} : ∀ (cs : List (Nat × Pos)) (cv : List AV) (pre : List (Option AV)) (K : List AV → List AO → Prop), cs.length = cv.length → (∀ v ∈ cv, isOwn v = false) → K cv st → wpXs P C N (locsF pre.length cs) (pre ++ cv.map some) st K := by
  intro cs
  induction cs with
  | nil => intro cv pre K h _ k; cases cv with | nil => exact k | cons _ _ => cases h
  | cons q r ih =>
    intro cv pre K h hn k
    cases cv with
    | nil => cases h
    | cons v cv =>
      have := ih cv (pre ++ [some v]) (fun l st => K (v :: l) st) (Nat.succ.inj h) (fun u hu => hn u (List.mem_cons_of_mem _ hu)) k
      rw [List.length_append, List.append_assoc] at this
      show wpX P C N (.loc pre.length q.2) false (pre ++ some v :: cv.map some) st _
      show (match (pre ++ some v :: cv.map some).getD pre.length none with | some (.own l) => _ | some v => _ | none => False)
      rw [getD_mid]
      have ho := hn v List.mem_cons_self
      cases v with
      | own l => cases ho
      | _ => exact this
theorem wp0_ok {P : Pg} {C N : CallT} {e : E0} {d : D} {cv : List AV} {st : List AO} {Q : AV → List AO → Prop} (hl : cv.length = e.caps.length) (hn : ∀ v ∈ cv, isOwn v = false) (w : wp0 P C e d cv st Q) : wpX P C N (eIR e) false (some (.d d) :: cv.map some) st Q := by
  cases e with
  | met o x m op ap xp p =>
    match cv, w with
    | [.ob n], w => exact w
    | [.d _], w => exact w.elim
    | [.own _], w => exact w.elim
    | [], w => exact w.elim
    | _ :: _ :: _, w => exact w.elim
  | cal f x cs np xp p =>
    exact locs_wp (Q := fun _ _ => True) cs cv [some (.d d)] (fun l st => C f (.d d :: l) st Q) (by rw [hl]; exact (List.length_map _).symm) hn w
theorem caps_spec {vs : Vars} : ∀ {ci : List Nat} {cv : List AV}, capsOf vs ci = some cv → cv.length = ci.length ∧ (∀ v ∈ cv, isOwn v = false) ∧ ∀ (j i : Nat) (v : AV), ci[j]? = some i → cv[j]? = some v → vs.getD i none = some v := by
  intro ci
  induction ci with
  | nil => intro cv h; cases h; exact ⟨rfl, fun _ h => (nomatch h), fun _ _ _ h => (nomatch h)⟩
  | cons i r ih =>
    intro cv h
    replace h : (match vs.getD i none, capsOf vs r with | some (.d x), some l => some (.d x :: l) | some (.ob n), some l => some (.ob n :: l) | _, _ => none) = some cv := h
    cases e2 : capsOf vs r with
    | none => rw [e2] at h; cases e1 : vs.getD i none with
      | none => rw [e1] at h; exact nomatch h
      | some v => rw [e1] at h; cases v <;> exact nomatch h
    | some l =>
      obtain ⟨h1, h2, h3⟩ := ih e2
      cases e1 : vs.getD i none with
      | none => rw [e1, e2] at h; exact nomatch h
      | some v =>
        have fin : isOwn v = false → cv = v :: l → cv.length = (i :: r).length ∧ (∀ v ∈ cv, isOwn v = false) ∧ ∀ (j k : Nat) (u : AV), (i :: r)[j]? = some k → cv[j]? = some u → vs.getD k none = some u := by
          rintro ho rfl
          refine ⟨congrArg Nat.succ h1, fun u hu => ?_, fun j k u hj hu => ?_⟩
          · rcases List.mem_cons.mp hu with rfl | hu
            · exact ho
            · exact h2 u hu
          · cases j with
            | zero => cases hj; cases hu; exact e1
            | succ j => exact h3 j k u hj hu
        cases v with
        | d x => rw [e1, e2] at h; exact fin rfl (Option.some.inj h).symm
        | ob n => rw [e1, e2] at h; exact fin rfl (Option.some.inj h).symm
        | own m => rw [e1, e2] at h; exact nomatch h
noncomputable def clF (env : Env) : List (Str × NameKind) → List (Str × Addr) → List (Str × Addr)
  | [], cs => cs
  | (x, k) :: r, cs => clF env r (if (k == .free) = true then (match env.cells.lookup x with | some c => (x, c) :: cs | none => cs) else cs)
theorem clos_ok {sc : Scope} {env : Env} (h : ∀ y ∈ sc.names, y.2 = .free → ∃ c, env.cells.lookup y.1 = some c) : closureFor sc env = pure (clF env sc.names []) := by
  have key : ∀ (names : List (Str × NameKind)) (cs : List (Str × Addr)), (∀ y ∈ names, y.2 = .free → ∃ c, env.cells.lookup y.1 = some c) →
      (forIn names cs fun x r => if (x.2 == NameKind.free) = true then (do let c ← cellOf env x.1; pure (ForInStep.yield ((x.1, c) :: r))) else pure (ForInStep.yield r) : Sem (List (Str × Addr))) = pure (clF env names cs) := by
    intro names
    induction names with
    | nil => intro cs _; rfl
    | cons y r ih =>
      intro cs h
      obtain ⟨x, k⟩ := y
      rw [List.forIn_cons]
      have hr := fun cs => ih cs fun z hz => h z (List.mem_cons_of_mem _ hz)
      by_cases hk : (k == NameKind.free) = true
      · obtain ⟨c, hc⟩ := h (x, k) List.mem_cons_self (eq_of_beq hk)
        simp only [hk, if_true, cellOf, hc, pure_bind, clF]
        exact hr _
      · simp only [hk, if_false, pure_bind, clF]
        exact hr _
  simp only [closureFor, key sc.names [] h, pure_bind]
theorem clF_mem {env : Env} : ∀ (names : List (Str × NameKind)) (cs : List (Str × Addr)) (q : Str × Addr), q ∈ clF env names cs → q ∈ cs ∨ ((q.1, NameKind.free) ∈ names ∧ env.cells.lookup q.1 = some q.2) := by
  intro names
  induction names with
  | nil => intro cs q h; exact .inl h
  | cons y r ih =>
    obtain ⟨x, k⟩ := y
    intro cs q h
    rcases ih _ q h with h' | ⟨h1, h2⟩
    · clear h
      by_cases hk : (k == NameKind.free) = true
      · rw [if_pos hk] at h'
        have ek := eq_of_beq hk
        subst ek
        cases hc : env.cells.lookup x with
        | none => rw [hc] at h'; exact .inl h'
        | some c =>
          rw [hc] at h'
          rcases List.mem_cons.mp h' with rfl | h'
          · exact .inr ⟨List.mem_cons_self, hc⟩
          · exact .inl h'
      · rw [if_neg hk] at h'; exact .inl h'
    · exact .inr ⟨List.mem_cons_of_mem _ h1, h2⟩
theorem clF_has {env : Env} : ∀ (names : List (Str × NameKind)) (cs : List (Str × Addr)) (q : Str × Addr), (q ∈ cs ∨ ((q.1, NameKind.free) ∈ names ∧ env.cells.lookup q.1 = some q.2)) → q ∈ clF env names cs := by
  intro names
  induction names with
  | nil => intro cs q h; exact h.elim id fun h => nomatch h.1
  | cons y r ih =>
    obtain ⟨x, k⟩ := y
    intro cs q h
    refine ih _ q ?_
    by_cases hk : (k == NameKind.free) = true
    · rw [if_pos hk]
      cases hc : env.cells.lookup x with
      | none =>
        rcases h with h | ⟨h1, h2⟩
        · exact .inl h
        · rcases List.mem_cons.mp h1 with e | h1
          · cases e; rw [hc] at h2; exact nomatch h2
          · exact .inr ⟨h1, h2⟩
      | some c =>
        rcases h with h | ⟨h1, h2⟩
        · exact .inl (List.mem_cons_of_mem _ h)
        · rcases List.mem_cons.mp h1 with e | h1
          · refine .inl ?_
            obtain ⟨q1, q2⟩ := q
            cases e
            rw [hc] at h2; cases h2
            exact List.mem_cons_self
          · exact .inr ⟨h1, h2⟩
    · rw [if_neg hk]
      rcases h with h | ⟨h1, h2⟩
      · exact .inl h
      · rcases List.mem_cons.mp h1 with e | h1
        · cases e; exact absurd rfl hk
        · exact .inr ⟨h1, h2⟩
theorem clF_nd {env : Env} : ∀ (names : List (Str × NameKind)) (cs : List (Str × Addr)), (names.map (·.1)).Nodup → (cs.map (·.1)).Nodup → (∀ q ∈ cs, q.1 ∉ names.map (·.1)) → ((clF env names cs).map (·.1)).Nodup := by
  intro names
  induction names with
  | nil => intro cs _ h _; exact h
  | cons y r ih =>
    obtain ⟨x, k⟩ := y
    intro cs hn hc hd
    rw [List.map_cons, List.nodup_cons] at hn
    have hd' : ∀ q ∈ cs, q.1 ∉ r.map (·.1) := fun q hq c => hd q hq (List.mem_cons_of_mem _ c)
    refine ih _ hn.2 ?_ ?_
    · by_cases hk : (k == NameKind.free) = true
      · rw [if_pos hk]
        cases env.cells.lookup x with
        | none => exact hc
        | some c =>
          show ((x, c) :: cs |>.map (·.1)).Nodup
          rw [List.map_cons, List.nodup_cons]
          refine ⟨fun hm => ?_, hc⟩
          obtain ⟨q, hq, e⟩ := List.mem_map.mp hm
          exact hd q hq (e ▸ List.mem_cons_self)
      · rw [if_neg hk]; exact hc
    · by_cases hk : (k == NameKind.free) = true
      · rw [if_pos hk]
        cases env.cells.lookup x with
        | none => exact hd'
        | some c =>
          intro q hq
          rcases List.mem_cons.mp hq with rfl | hq
          · exact hn.1
          · exact hd' q hq
      · rw [if_neg hk]; exact hd'
theorem lookup_nd {β : Type} : ∀ {l : List (Str × β)} {x : Str} {b : β}, (l.map (·.1)).Nodup → (x, b) ∈ l → l.lookup x = some b := by
  intro l
  induction l with
  | nil => intro x b _ h; exact nomatch h
  | cons q r ih =>
    obtain ⟨y, c⟩ := q
    intro x b hn h
    rw [List.map_cons, List.nodup_cons] at hn
    by_cases e : x = y
    · subst e
      rcases List.mem_cons.mp h with e | h
      · cases e; rw [List.lookup_cons, beq_self_eq_true]
      · exact absurd (List.mem_map.mpr ⟨_, h, rfl⟩) hn.1
    · rw [List.lookup_cons, beq_eq_false_iff_ne.mpr e]
      rcases List.mem_cons.mp h with e' | h
      · cases e'; exact absurd rfl e
      · exact ih hn.2 h
theorem relabel_k {env : Env} : ∀ {names : List (Str × NameKind)} {x : Str} {k : NameKind}, names.lookup x = some k →
    (names.map fun (n, k) => if (k == NameKind.free && env.scope.kind == .function && env.kindOf n == some .cell) = true then (n, NameKind.cell) else (n, k)).lookup x = some (if (k == NameKind.free && env.scope.kind == .function && env.kindOf x == some .cell) = true then .cell else k) := by
  intro names
  induction names with
  | nil => intro x k h; exact nomatch h
  | cons q r ih =>
    obtain ⟨n, j⟩ := q
    intro x k h
    rw [List.lookup_cons] at h
    rw [List.map_cons]
    show List.lookup x ((if (j == NameKind.free && env.scope.kind == .function && env.kindOf n == some .cell) = true then (n, NameKind.cell) else (n, j)) :: _) = _
    by_cases e : (x == n) = true
    · rw [e] at h
      cases h
      have en := eq_of_beq e
      subst en
      by_cases c : (j == NameKind.free && env.scope.kind == .function && env.kindOf x == some .cell) = true
      · rw [if_pos c, if_pos c, List.lookup_cons, e]
      · rw [if_neg c, if_neg c, List.lookup_cons, e]
    · have e' : (x == n) = false := by simpa using e
      rw [e'] at h
      by_cases c : (j == NameKind.free && env.scope.kind == .function && env.kindOf n == some .cell) = true
      · rw [if_pos c, List.lookup_cons, e']; exact ih h
      · rw [if_neg c, List.lookup_cons, e']; exact ih h
end Mn
end
section
namespace Mn
noncomputable def noDbC (x : String) : Bool := !(Str.ofString x == ("__debug__" : Str)) && !(Str.ofString x == ("__classdict__" : Str))
noncomputable def elOk (P : Pg) (sc : Scope) : E0 → Bool
  | .met _ _ _ _ ap _ p => ap.endLine == p.line
  | .cal f .. => ((P.fns.map (·.gname)).getD f "" != "") && (sc.names.lookup (Str.ofString ((P.fns.map (·.gname)).getD f "")) == some .globalImplicit)
structure CompOk (P : Pg) (g : Sg) (e : E0) (sc : Scope) : Prop where
  kind : sc.kind = .function
  nocell : ∀ y ∈ sc.names, y.2 ≠ .cell
  nd : (sc.names.map (·.1)).Nodup
  hx : sc.names.lookup (Str.ofString e.x) = some .local
  nsnd : ((eNs g.ns e).map Str.ofString).Nodup
  dbg : ∀ x ∈ eNs g.ns e, noDbC x = true
  caps : ∀ o ∈ capN g.ns e, sc.names.lookup (Str.ofString o) = some .free ∧ g.k (Str.ofString o) .cell = true
  idx : ∀ i ∈ e.caps, i < g.ns.length
  frees : ∀ y ∈ sc.names, y.2 = .free → ∃ o ∈ capN g.ns e, Str.ofString o = y.1
  el : elOk P sc e = true
noncomputable def compOk (P : Pg) (g : Sg) (e : E0) (sc : Scope) : Bool :=
  (sc.kind == .function) && (sc.names.all (fun y => y.2 != .cell) && (decide (sc.names.map (·.1)).Nodup && ((sc.names.lookup (Str.ofString e.x) == some .local) && (decide ((eNs g.ns e).map Str.ofString).Nodup && ((eNs g.ns e).all noDbC && ((capN g.ns e).all (fun o => sc.names.lookup (Str.ofString o) == some .free && g.k (Str.ofString o) .cell) &&
  (e.caps.all (fun i => decide (i < g.ns.length)) && (sc.names.all (fun y => y.2 != .free || (capN g.ns e).any (fun o => Str.ofString o == y.1)) && elOk P sc e))))))))
theorem comp_ok {P : Pg} {g : Sg} {e : E0} {sc : Scope} (h : compOk P g e sc = true) : CompOk P g e sc := by
  unfold compOk at h
  simp only [Bool.and_eq_true, List.all_eq_true, decide_eq_true_eq, beq_iff_eq, bne_iff_ne, Bool.or_eq_true, List.any_eq_true] at h
  obtain ⟨h1, h2, h3, h4, h5, h6, h7, h8, h9, h10⟩ := h
  exact ⟨h1, h2, h3, h4, h5, h6, h7, h8, fun y hy hf => (h9 y hy).resolve_left fun c => c hf, h10⟩
section
variable {Γ : Wd} {n : Nat} {env : Env} {ns : List String}
theorem but_inv {F : Fz} {α : List SA} {st : List AO} {h h' : Heap} {a : Addr} (I : Inv Γ F α st h) (ha : F a = none ∧ a ∉ sAddrs α) (kk : ∀ b o, b ∉ [a] → h.get? b = some o → h'.get? b = some o) : Inv Γ F α st h' :=
  I.other (fun b o e => kk b o (fun c => by rw [List.mem_singleton] at c; subst c; rw [ha.1] at e; cases e) (I.agree b o e)) (fun b hb o e => kk b o (fun c => by rw [List.mem_singleton] at c; subst c; exact ha.2 hb) e)
theorem Ext.but {X : Addr → Prop} {F F' : Fz} {α α' : List SA} {h h' h'' : Heap} {a : Addr} (x : Ext X F α h F' α' h') (ha : h.get? a = none) (k : ∀ b o, b ∉ [a] → h'.get? b = some o → h''.get? b = some o) : Ext X F α h F' α' h'' := by
  have ne : ∀ b o, h.get? b = some o → b ∉ [a] := fun b o e c => by rw [List.mem_singleton] at c; subst c; rw [ha] at e; cases e
  exact ⟨x.sub, x.pre, fun b o e hm hb => let ⟨e1, e2⟩ := x.keep b o e hm hb; ⟨k b o (ne b o e) e1, e2⟩, fun b o e => let ⟨o', e'⟩ := x.stay b o e; ⟨o', k b o' (ne b o e) e'⟩⟩
theorem sb_but {a : Addr} {h h' : Heap} (hs : Heap.SameBut a h h') : ∀ b o, b ∉ [a] → h.get? b = some o → h'.get? b = some o := fun b o hb e => (hs.2 b fun c => hb (List.mem_singleton.mpr c)).trans e
variable {g : Sg} {e : E0} {sc : Scope} {F : Fz} {α : List SA} {vars : Vars} {oa : Nat → Addr} {h : Heap} {cv : List AV}
theorem capt (G : GOK g env ns) (ok : CompOk Γ.P g e sc) (f : Frm F α env ns vars oa h) (hc : capsOf vars e.caps = some cv) (j : Nat) (o : String) (av : AV) (ho : (capN ns e)[j]? = some o) (hv : cv[j]? = some av) :
    ∃ c v, env.cells.lookup (Str.ofString o) = some c ∧ h.IsCell c (some v) ∧ VR F α av v := by
  obtain ⟨_, hown, hat⟩ := caps_spec hc
  unfold capN at ho
  rw [List.getElem?_map] at ho
  cases hi : e.caps[j]? with
  | none => rw [hi] at ho; exact nomatch ho
  | some i =>
    rw [hi] at ho
    have ho : ns.getD i "" = o := Option.some.inj ho
    have hlt : i < ns.length := by have := ok.idx i (List.mem_of_getElem? hi); rw [G.ns] at this; exact this
    have hg := hat j i av hi hv
    have hv' : vars[i]? = some (some av) := by
      rw [List.getD_eq_getElem?_getD] at hg
      cases e : vars[i]? with
      | none => rw [e] at hg; cases hg
      | some o => rw [e] at hg; simpa using hg
    have hx : ns[i]? = some o := by
      rw [List.getElem?_eq_getElem hlt, ← ho, List.getD_eq_getElem?_getD, List.getElem?_eq_getElem hlt]; rfl
    obtain ⟨v, hn, hr⟩ := f.at_ i o av hx hv'
    have hm : o ∈ capN g.ns e := by rw [G.ns]; unfold capN; exact List.mem_map.mpr ⟨i, List.mem_of_getElem? hi, ho⟩
    have hk := G.k (ok.caps o hm).2
    have hr' : VR F α av v := by
      have := hown av (List.mem_of_getElem? hv)
      cases av with
      | own l => cases this
      | _ => exact hr
    rcases hn with ⟨hl, _⟩ | ⟨_, c, hc, hcl⟩
    · rw [hk] at hl; cases hl
    · exact ⟨c, v, hc, hcl, hr'⟩
theorem free_cell (G : GOK g env ns) (ok : CompOk Γ.P g e sc) (f : Frm F α env ns vars oa h) (hc : capsOf vars e.caps = some cv) (y : Str × NameKind) (hy : y ∈ sc.names) (hf : y.2 = .free) : ∃ c, env.cells.lookup y.1 = some c := by
  obtain ⟨o, ho, e⟩ := ok.frees y hy hf
  rw [G.ns] at ho
  obtain ⟨j, hj⟩ := List.mem_iff_getElem?.mp ho
  have hlen := (caps_spec hc).1
  have hjl : j < cv.length := by
    have := (List.getElem?_eq_some_iff.mp hj).1
    unfold capN at this
    rw [List.length_map] at this
    exact lin (ad (lq hlen.symm) this)
  obtain ⟨c, v, h1, _⟩ := capt G ok f hc j o cv[j] hj (List.getElem?_eq_getElem hjl)
  exact ⟨c, e ▸ h1⟩
theorem comp_eok (G : GOK g env ns) (EK : EOK env ns) (ok : CompOk Γ.P g e sc) (f : Frm F α env ns vars oa h) (C : Addr) (hC : h.get? C = none) : EOK (compEnvC sc (clF env sc.names []) C env) (eNs ns e) := by
  have mem : ∀ q ∈ clF env sc.names [], env.cells.lookup q.1 = some q.2 := fun q hq => ((clF_mem _ _ q hq).resolve_left fun h => nomatch h).2
  have hnd := clF_nd (env := env) sc.names [] ok.nd List.nodup_nil fun _ h => nomatch h
  refine ⟨ok.kind, EK.gl, EK.bt, by rw [← G.ns]; exact ok.nsnd, fun x hx => ?_, ?_, ?_⟩
  · have := ok.dbg x (by rw [G.ns]; exact hx)
    unfold noDbC at this
    rw [Bool.and_eq_true, Bool.not_eq_true', Bool.not_eq_true'] at this
    exact this
  · show (C :: (clF env sc.names []).map (·.2)).Nodup
    refine List.nodup_cons.mpr ⟨fun hm => ?_, ?_⟩
    · obtain ⟨q, hq, e⟩ := List.mem_map.mp hm
      obtain ⟨_, _, o, ho⟩ := f.fp q.2 (fp_cell (mem q hq))
      rw [e, hC] at ho; cases ho
    · have pw : (clF env sc.names []).Pairwise fun p q => p.1 ≠ q.1 := List.pairwise_map.mp hnd
      refine List.pairwise_map.mpr (pw.imp_of_mem fun {p q} hp hq hne => ?_)
      exact lookup_addr_ne EK.cn (mem p hp) (mem q hq) hne
  · show interactive _ = false
    unfold interactive
    show ((relabel sc env).kind == _ && _) = false
    have : (relabel sc env).kind = .function := ok.kind
    rw [this]; rfl
theorem comp_frm (G : GOK g env ns) (EK : EOK env ns) (ok : CompOk Γ.P g e sc) (f : Frm F α env ns vars oa h) (hc : capsOf vars e.caps = some cv) {C : Addr} {m : Str → Option Value} (hC : F C = none ∧ C ∉ sAddrs α) (hn : h.Ns C m) {d : D} {v : Value} (hm : m (Str.ofString e.x) = some v) (r : DR F d v) :
    Frm F α (compEnvC sc (clF env sc.names []) C env) (eNs ns e) (some (.d d) :: cv.map some) (fun _ => 0) h := by
  have mem : ∀ q ∈ clF env sc.names [], env.cells.lookup q.1 = some q.2 := fun q hq => ((clF_mem _ _ q hq).resolve_left fun h => nomatch h).2
  have hnd := clF_nd (env := env) sc.names [] ok.nd List.nodup_nil fun _ h => nomatch h
  obtain ⟨hlen, hown, _⟩ := caps_spec hc
  have noown : ∀ (i : Nat) (l : List D), (some (AV.d d) :: cv.map some)[i]? ≠ some (some (.own l)) := fun i l c => by
    cases i with
    | zero => cases c
    | succ i =>
      rw [List.getElem?_cons_succ, List.getElem?_map] at c
      cases hi : cv[i]? with
      | none => rw [hi] at c; cases c
      | some u => rw [hi] at c; cases c; have := hown _ (List.mem_of_getElem? hi); cases this
  refine ⟨⟨m, hn⟩, ?_, fun i y av hy hv => ?_, fun a ha => ?_, fun i l c => (noown i l c).elim, fun i j l m c => (noown i l c).elim, fun c hcc => ?_⟩
  · show (cv.map some).length + 1 = (capN ns e).length + 1
    unfold capN
    rw [List.length_map, List.length_map, hlen]
  · cases i with
    | zero =>
      cases hy; cases hv
      refine ⟨v, .inl ⟨?_, m, hn, hm⟩, r⟩
      exact lookup_relabel_local ok.hx
    | succ i =>
      rw [List.getElem?_cons_succ, List.getElem?_map] at hv
      have hy : (capN ns e)[i]? = some y := hy
      cases hi : cv[i]? with
      | none => rw [hi] at hv; cases hv
      | some u =>
        rw [hi] at hv
        cases hv
        obtain ⟨c, w, h1, h2, h3⟩ := capt G ok f hc i y av hy hi
        have ho := ok.caps y (by rw [G.ns]; exact List.mem_of_getElem? hy)
        refine ⟨w, .inr ⟨?_, c, ?_, h2⟩, ?_⟩
        · have := relabel_k (env := env) ho.1
          show (relabel sc env).names.lookup _ = _ ∨ (relabel sc env).names.lookup _ = _
          rw [show (relabel sc env).names.lookup (Str.ofString y) = _ from this]
          split
          · exact .inl rfl
          · exact .inr rfl
        · exact lookup_nd hnd (clF_has _ _ (Str.ofString y, c) (.inr ⟨mem_of_lookup ho.1, h1⟩))
        · have := hown av (List.mem_of_getElem? hi)
          cases av with
          | own l => cases this
          | _ => exact h3
  · rcases List.mem_cons.mp ha with rfl | ha
    · obtain ⟨o, _, _, ho, _⟩ := hn
      exact ⟨hC.1, hC.2, o, ho⟩
    · obtain ⟨q, hq, rfl⟩ := List.mem_map.mp ha
      exact f.fp q.2 (fp_cell (mem q hq))
  · obtain ⟨q, hq, rfl⟩ := List.mem_map.mp hcc
    exact f.cells q.2 (List.mem_map.mpr ⟨(q.1, q.2), mem_of_lookup (mem q hq), rfl⟩)
theorem locs_all {cenv : Env} {ms : List String} (EK : EOK cenv ms) : ∀ (cs : List (Nat × Pos)) (k : Nat), AllS Γ n cenv ms (locsF k cs) := by
  intro cs
  induction cs with
  | nil => intro _; trivial
  | cons q r ih => intro k; exact ⟨sem_loc EK, ih _⟩
theorem el_sem (W : WdOK Γ) (ok : CompOk Γ.P g e sc) {C : Addr} (EK' : EOK (compEnvC sc (clF env sc.names []) C env) (eNs ns e)) : SemX Γ n (compEnvC sc (clF env sc.names []) C env) (eNs ns e) (eIR e) := by
  have hel := ok.el
  cases e with
  | met o x m op ap xp p => exact sem_met W (sem_loc EK') ⟨sem_loc EK', trivial⟩ rfl hel (by show 1 < 30; decide)
  | cal f x cs np xp p =>
    have hel : (((Γ.P.fns.map (·.gname)).getD f "" != "") && (sc.names.lookup (Str.ofString ((Γ.P.fns.map (·.gname)).getD f "")) == some .globalImplicit)) = true := hel
    rw [Bool.and_eq_true] at hel
    have hk := relabel_k (env := env) (eq_of_beq hel.2)
    refine sem_cal W EK' (xs := .cons (.loc 0 xp) (locsF 1 cs)) ⟨sem_loc EK', locs_all EK' cs 1⟩ ?_ hel.1
    show (relabel sc env).names.lookup _ = _
    rw [show (relabel sc env).names.lookup (Str.ofString ((Γ.P.fns.map (·.gname)).getD f "")) = _ from hk]; rfl
end
end Mn
end
section
namespace Mn
section
variable {Γ : Wd} {n : Nat} {env : Env} {ns : List String} {g : Sg} {e : E0} {sc : Scope}
structure CI (Γ : Wd) (n : Nat) (s : Shared) (F : Fz) (α : List SA) (F₂ : Fz) (e : E0) (cv : List AV) (l : List D) (St : Nat → Heap → Prop) (it dl ca : Addr) (Q : List D → List AO → Prop) (i : Nat) (F' : Fz) (α' : List SA) (st' : List AO) (acc : List D) (m : Str → Option Value) (vs : List Value) (c : Nat) (s' : Shared) : Prop where
  hs : ∃ tk, s' = { s with heap := s'.heap, toks := tk }
  x : ExtE F α s.heap F' α' s'.heap
  sub : F₂.Sub F'
  inv : Inv Γ F' α' st' s'.heap
  fi : F' it = none ∧ it ∉ sAddrs α'
  fd : F' dl = none ∧ dl ∉ sAddrs α'
  fc : F' ca = none ∧ ca ∉ sAddrs α'
  ns : s'.heap.Ns ca m
  gd : s'.heap.get? dl = some { cls := .type "list", data := .seq vs.toArray c }
  dr : DRs F' acc vs
  len : acc.length = i
  st : St i s'.heap
  lt : i ≤ l.length
  w : compW (fun d st Q => wp0 Γ.P (CallOK Γ n) e d cv st Q) (l.drop i) acc st' Q
theorem comp_loop (W : WdOK Γ) (EK : EOK env ns) (G : GOK g env ns) (ok : CompOk Γ.P g e sc) {A : Around} (R : Room A n) {s : Shared} {F F₂ : Fz} {α : List SA} {vars : Vars} {oa : Nat → Addr} (f : Frm F α env ns vars oa s.heap) {cv : List AV} (hc : capsOf vars e.caps = some cv) {l : List D} (hl : l.length ≤ big)
    {it dl ca : Addr} {fp : List Addr} {Pv : Nat → Value → Prop} {St : Nat → Heap → Prop} (wk : ItW Γ A F₂ it l fp Pv St) (n1 : s.heap.get? it = none) (n2 : s.heap.get? dl = none) (n3 : s.heap.get? ca = none) (d1 : dl ≠ it) (d2 : ca ≠ it) (d3 : ca ≠ dl) {Q : List D → List AO → Prop} {Rr : Result → Shared → Prop}
    (fin : ∀ (F' : Fz) (α' : List SA) (st' : List AO) (acc : List D) (m : Str → Option Value) (vs : List Value) (c : Nat) (s' : Shared), CI Γ n s F α F₂ e cv l (fun _ _ => True) it dl ca Q l.length F' α' st' acc m vs c s' → Rr (.ok .next) s')
    {elt iter : PySem.Expr} {tp pos : Pos} (helt : elt = toE0 Γ.P ns e) {F₁ : Fz} {α₁ : List SA} {st₁ : List AO} {m₁ : Str → Option Value} {c₁ : Nat} {s₁ : Shared} (h0 : CI Γ n s F α F₂ e cv l St it dl ca Q 0 F₁ α₁ st₁ [] m₁ [] c₁ s₁) :
    codeAny (model Γ.prog Γ.w) A (.compLoop (.ListComp elt [⟨.Name (Str.ofString e.x) tp, iter, [], 0⟩] sc pos) 0 (.ref it) (.ref dl) (compEnvC sc (clF env sc.names []) ca env)) Rr s₁ := by
  subst helt
  refine codeAny_compLoop_list (fun k s' => ∃ i F' α' st' acc m vs c, k = l.length - i ∧ CI Γ n s F α F₂ e cv l St it dl ca Q i F' α' st' acc m vs c s') ?_ l.length ⟨0, F₁, α₁, st₁, [], m₁, [], c₁, rfl, h0⟩
  rintro k s₂ ⟨i, F', α', st', acc, m, vs, c, rfl, h⟩
  by_cases hlt : i < l.length
  · refine wk.wk.item i s₂ _ _ hlt h.st fun v h' tk pv hst' kk => ?_
    have I' := but_inv h.inv h.fi kk
    have x' := h.x.but n1 kk
    have nsC : h'.Ns ca m := h.ns.at' fun o eo => kk _ o (fun c => d2 (List.mem_singleton.mp c)) eo
    have gD : h'.get? dl = some { cls := .type "list", data := .seq vs.toArray c } := kk _ _ (fun c => d1 (List.mem_singleton.mp c)) h.gd
    obtain ⟨oi, hoi⟩ := wk.lv _ _ hst'
    obtain ⟨d, hd, hr⟩ := wk.val i v pv
    refine wpAny_assign_Name (wpAny_storeName_local (lookup_relabel_local ok.hx) nsC (fun h₂ hn₂ hs₂ => ?_) (by
      have : (relabel sc env).kind = .function := ok.kind
      show ((relabel sc env).kind == _ || ((relabel sc env).kind == _ && _)) = false
      rw [this]; rfl))
    have I₂ := but_inv I' h.fc (sb_but hs₂)
    have x₂ := x'.but n3 (sb_but hs₂)
    have gD₂ : h₂.get? dl = some { cls := .type "list", data := .seq vs.toArray c } := (hs₂.2 _ (Ne.symm d3)).trans gD
    have gI₂ : h₂.get? it = some oi := (hs₂.2 _ (Ne.symm d2)).trans hoi
    have f₂ := f.ext x₂
    have EK' := comp_eok G EK ok f ca n3
    have fc := comp_frm G EK ok f₂ hc h.fc hn₂ (v := v) (if_pos rfl) (hr.mono h.sub)
    have hdrop : l.drop i = d :: l.drop (i + 1) := by
      rw [List.drop_eq_getElem_cons hlt]
      rw [List.getElem?_eq_getElem hlt] at hd
      cases hd; rfl
    have w := h.w
    rw [hdrop] at w
    obtain ⟨hlen, hown, _⟩ := caps_spec hc
    have w' := wp0_ok (N := NewOK Γ n) hlen hown w
    rw [← eIR_eq]
    refine wpAny_mono ((el_sem W ok EK').step R (s := { s₂ with heap := h₂, toks := tk + 1 }) I₂ fc w' fun F₃ α₃ st₃ av y s₃ hs₃ x₃ I₃ f₃ r₃ q => ?_) (fun _ _ h => h) fun _ _ e => e.elim
    cases av with
    | d z =>
      have kD := x₃.keep dl _ gD₂ h.fd.2 id
      have kI := x₃.keep it _ gI₂ h.fi.2 id
      obtain ⟨oC, esC, epC, hoC, rC⟩ := id hn₂
      have kC := x₃.keep ca _ hoC h.fc.2 id
      obtain ⟨β, rfl, hβ⟩ := x₃.pre
      have hvs : vs.length = i := by rw [← h.dr.length, h.len]
      refine wpAny_list_append_plain ⟨c, kD.1⟩ (fun h₅ hl₅ hs₅ => ?_) (by rw [List.size_toArray, hvs]; exact Nat.le_trans (Nat.le_of_lt hlt) hl)
      obtain ⟨c₅, g₅⟩ := hl₅
      have tD : F₃ dl = none ∧ dl ∉ sAddrs (α' ++ β) := ⟨kD.2.trans h.fd.1, not_mem_ext gD₂ h.fd.2 hβ⟩
      refine ⟨l.length - (i + 1), by omega, i + 1, F₃, _, st₃, acc ++ [z], fun x => if x = Str.ofString e.x then some v else m x, vs ++ [y], c₅, rfl, ⟨?_, ?_, h.sub.trans x₃.sub, but_inv I₃ tD (sb_but hs₅), ⟨kI.2.trans h.fi.1, not_mem_ext gI₂ h.fi.2 hβ⟩, tD, ⟨kC.2.trans h.fc.1, not_mem_ext hoC h.fc.2 hβ⟩, ?_, ?_, ?_, ?_, ?_, hlt, q⟩⟩
      · exact tr_trans h.hs (tr_trans (s₁ := { s₂ with heap := h₂, toks := tk + 1 }) ⟨_, rfl⟩ (tr_trans hs₃ ⟨_, rfl⟩))
      · exact (x₂.trans x₃).but n2 (sb_but hs₅)
      · exact Heap.Ns.sameBut ⟨oC, esC, epC, kC.1, rC⟩ hs₅ d3
      · rw [show (vs ++ [y]).toArray = vs.toArray.push y from (List.push_toArray ..).symm]; exact g₅
      · exact (h.dr.mono x₃.sub).append (.cons r₃ .nil)
      · rw [List.length_append, h.len]; rfl
      · refine wk.wk.frame (i + 1) h' h₅ hst' fun b hbf o eo => ?_
        rcases wk.fp b hbf with rfl | ⟨o', e'⟩
        · rw [hoi] at eo; cases eo; exact (hs₅.2 _ (Ne.symm d1)).trans kI.1
        · have e1 := h.sub _ _ e'
          have e2 := I'.agree _ _ e1
          rw [eo] at e2
          cases e2
          exact (but_inv I₃ tD (sb_but hs₅)).agree _ _ (x₃.sub _ _ e1)
    | _ => exact q.elim
  · have hi' : i = l.length := by have := h.lt; omega
    subst hi'
    refine wk.wk.done s₂ _ _ h.st fun h' tk kk => ?_
    refine fin F' α' st' acc m vs c _ ⟨tr_trans h.hs ⟨_, rfl⟩, h.x.but n1 kk, h.sub, but_inv h.inv h.fi kk, h.fi, h.fd, h.fc, h.ns.at' fun o eo => kk _ o (fun c => d2 (List.mem_singleton.mp c)) eo, kk _ _ (fun c => d1 (List.mem_singleton.mp c)) h.gd, h.dr, h.len, trivial, Nat.le_refl _, h.w⟩
theorem sem_comp (W : WdOK Γ) (EK : EOK env ns) (G : GOK g env ns) {itx : X} {tp p : Pos} (hit : SemX Γ n env ns itx) (h : compOk Γ.P g e sc = true) : SemX Γ n env ns (.comp e itx tp sc p) :=
  .mk (fun vs st Q => ∃ cv, capsOf vs e.caps = some cv ∧ wpX Γ.P (CallOK Γ n) (NewOK Γ n) itx false vs st fun v st => ∃ l, ItR .over v l ∧ l.length ≤ big ∧ compW (fun d st Q => wp0 Γ.P (CallOK Γ n) e d cv st Q) l [] st fun ys st => Q (.d (.lst ys)) st) (fun _ _ _ _ h => h) rfl fun A s F α st vars oa Q R I f q => by
    have ok := comp_ok h
    obtain ⟨cv, hc, q⟩ := q
    show wpAny _ A (eval (.ListComp (toE0 Γ.P ns e) [⟨.Name (Str.ofString e.x) tp, toE Γ.P ns itx, [], 0⟩] sc p) env) _ _ s
    rw [eval_ListComp]
    refine wpAny_comprehension_free (cl := clF env sc.names []) (use := none) rfl (fun _ => by cases itx <;> rfl) (clos_ok fun y hy hf => free_cell G ok f hc y hy hf) ok.kind (fun y hy hl => lookup_nd ok.nd (hl ▸ hy)) ?_
    refine wpAny_mono (iter_start W EK (k := .over) hit trivial R I f q) (fun xv s₁ h₁ => wpAny_mono h₁ (fun itv s₂ h₂ => ?_) fun _ _ e => e) fun _ _ e => e
    · obtain ⟨it, F₂, α₂, st₂, l, fp, Pv, St, rfl, hs, x, I₂, n1, fi1, fi2, wk, h0, hl, w⟩ := h₂
      refine wpAny_newObj_type (wpAny_newFunctionEnv ok.nocell (by intro y hy; simp at hy) (fun h₁ hns₁ hsb₁ => ?_) ok.kind)
      dsimp only at hns₁ hsb₁ ⊢
      generalize hH2 : s₂.heap.push { cls := .type "list", dict := none, data := .seq ([] : List Value).toArray } = H2 at hns₁ hsb₁ ⊢
      have hC : H2.objs.size = s₂.heap.objs.size + 1 := by rw [← hH2, Heap.size_push]
      have fresh : ∀ a, s₂.heap.objs.size ≤ a → s₂.heap.get? a = none := fun a ha => by
        cases e : s₂.heap.get? a with
        | none => rfl
        | some o' => exact absurd (Heap.lt_size e) (Nat.not_lt.mpr ha)
      have fD := fresh _ (Nat.le_refl _)
      have fC := fresh H2.objs.size (by rw [hC]; exact Nat.le_succ _)
      have hDC : s₂.heap.objs.size ≠ H2.objs.size := by rw [hC]; exact Nat.ne_of_lt (Nat.lt_succ_self _)
      have old : ∀ b o, s₂.heap.get? b = some o → h₁.get? b = some o := fun b o eo => (hsb₁.2 b (fun c => by rw [c, fC] at eo; cases eo)).trans (Heap.get?_push_of_some _ (hH2 ▸ Heap.get?_push_of_some _ eo))
      have gD : h₁.get? s₂.heap.objs.size = some { cls := .type "list", data := .seq ([] : List Value).toArray } := (hsb₁.2 _ hDC).trans (Heap.get?_push_of_some _ (hH2 ▸ Heap.get?_push_size _ rfl))
      obtain ⟨oi, hoi⟩ := wk.lv _ _ h0
      have ne : ∀ a, s₂.heap.get? a = none → a ≠ it := fun a ha c => by rw [c, hoi] at ha; cases ha
      have x₁ : ExtE F α s.heap F₂ α₂ h₁ := x.trans (ext_keeps _ _ old)
      have I₁ : Inv Γ F₂ α₂ st₂ h₁ := I₂.keeps old
      have st0 : St 0 h₁ := wk.wk.frame 0 _ _ h0 fun b _ o eo => old b o eo
      have CI0 : ∀ tk, CI Γ n s F α F₂ e cv l St it s₂.heap.objs.size H2.objs.size (fun ys st => Q (.d (.lst ys)) st) 0 F₂ α₂ st₂ [] _ [] 0 { s₂ with heap := h₁, toks := tk } := fun tk =>
        ⟨tr_trans hs ⟨_, rfl⟩, x₁, .refl _, I₁, ⟨fi1, fi2⟩, ⟨I₂.fnone fD, I₂.anone fD⟩, ⟨I₂.fnone fC, I₂.anone fC⟩, hns₁, gD, .nil, rfl, st0, Nat.zero_le _, w⟩
      have loop := fun tk => comp_loop (tp := tp) (pos := p) (iter := toE Γ.P ns itx) W EK G ok R f hc hl wk n1 (none_back x fD) (none_back x fC) (ne _ fD) (ne _ fC) (Ne.symm hDC) (Rr := compPost (model Γ.prog Γ.w) A NE none (PostE Γ F α s Q) (.ref s₂.heap.objs.size) H2.objs.size) (fun F' α' st' acc m vs c s' h => by
        refine ⟨m, h.ns, fun h'' hs'' => ?_⟩
        have J0 := but_inv h.inv h.fc (sb_but hs'')
        have g'' := (hs''.2 _ hDC).trans h.gd
        obtain ⟨J, Y⟩ := J0.freezeOld g'' h.fd.1 h.fd.2
        have xx := (h.x.but (none_back x fC) (sb_but hs'')).transX Y fun a o ea c => by rw [c, none_back x fD] at ea; cases ea
        have w' := h.w
        rw [List.drop_length] at w'
        obtain ⟨tk, es⟩ := h.hs
        exact ⟨_, α', st', .d (.lst acc), tk, by rw [es], xx, J, DR.lst (Fz.put_self ..) rfl rfl (h.dr.mono (Fz.sub_put _ h.fd.1)), w'⟩) rfl (CI0 tk)
      exact codeAny_compStart_list (loop _) (wk.wk.self 0 _ _ _ st0 (loop _))
end
end Mn
end
section
open PySem PySem.W PyProof.Rows PySem.Builtin.Str
namespace Mn
theorem str_idx_from (k : Int) (h : 0 ≤ k) (m : Nat) : strSliceIndices (some k) none 1 m = (List.range (m - min k.toNat m)).map (min k.toNat m + ·) := by
  unfold strSliceIndices
  have e1 : (if k < 0 then k + (m : Int) else k) = k := if_neg (by omega)
  simp only [show (1 : Int) > 0 by decide, if_true, e1]
  have e2 : max 0 (min k (m : Int)) = ((min k.toNat m : Nat) : Int) := by omega
  rw [e2, sliceRange_one]
theorem str_made_from {x : List Nat} {t u : Tok} {k : Int} (h : 0 ≤ k) (hz : x.length ≤ big) {Q : Value → Shared → Prop} {s : Shared} (q : ∀ t' tk, Q (.str ⟨(x.drop k.toNat).toArray⟩ t') { s with toks := tk }) : (sliceMade ⟨x.toArray⟩ t (some (k, u)) none none).post Q s := by
  have hp : slicePicked ⟨x.toArray⟩ (some (k, u)) none none = (List.range (x.length - min k.toNat x.length)).map (min k.toNat x.length + ·) := by
    unfold slicePicked
    rw [str_len]
    exact str_idx_from k h _
  unfold sliceMade
  rw [hp]
  split
  · rename_i e
    rw [List.length_map, List.length_range, str_len] at e
    have : x.drop k.toNat = x := by
      have e' : x.length - min k.toNat x.length = x.length := by simpa using e
      by_cases h0 : x.length = 0
      · rw [List.length_eq_zero_iff.mp h0, List.drop_nil]
      · have : k.toNat = 0 := by omega
        rw [this, List.drop_zero]
    have q' := q t s.toks
    rw [this] at q'
    exact q'
  · rw [pick_run]
    have : ((x.toArray.toList.drop (min k.toNat x.length)).take (x.length - min k.toNat x.length)) = x.drop k.toNat := by
      show (x.drop (min k.toNat x.length)).take _ = _
      rw [kmk_drop_min, List.take_of_length_le (by rw [List.length_drop]; omega)]
    rw [this]
    refine ⟨?_, q _ _⟩
    rw [str_len, List.length_drop]
    have : big = sizeLine := rfl
    omega
section
variable {Γ : Wd} {n : Nat} {env : Env} {ns : List String}
theorem sem_slcFrom {a i : X} {sp p : Pos} (hl : isLoc a = true) (ha : SemX Γ n env ns a) (hi : SemX Γ n env ns i) : SemX Γ n env ns (.slcFrom a i sp p) :=
  .mk (fun vs st Q => wpX Γ.P (CallOK Γ n) (NewOK Γ n) a false vs st fun x st => wpX Γ.P (CallOK Γ n) (NewOK Γ n) i false vs st fun y st => ∃ r, FromR x y r ∧ Q r st) (fun _ _ _ _ h => h) rfl fun A s F α st vars oa Q R I f q => by
    refine wpAny_Subscript_str_slice (ha.step R I f q fun F₁ α₁ st₁ x v s₁ hs x₁ I₁ f₁ r₁ q => ?_) (by cases a <;> first | (intro _ _; rfl) | cases hl)
    rw [evalPart_some]
    refine hi.step R I₁ f₁ q fun F₂ α₂ st₂ y u s₂ hs₂ x₂ I₂ f₂ r₂ q => ?_
    rw [evalPart_none]
    refine wpAny_pure ?_
    obtain ⟨r, e, q⟩ := q
    replace r₁ := x₂.vr r₁
    cases e with
    | @str l k hk =>
      obtain ⟨t, rfl⟩ : ∃ t, v = .str ⟨l.toArray⟩ t := by cases r₁; exact ⟨_, rfl⟩
      obtain ⟨tu, rfl⟩ : ∃ t, u = .int k t := by cases r₂; exact ⟨_, rfl⟩
      refine ⟨_, t, some (k, tu), none, rfl, rfl, rfl, str_made_from hk.1 hk.2.2 fun t' tk => ?_⟩
      refine PostE.after (tr_trans hs hs₂) (x₁.trans x₂) ?_
      exact post_keeps I₂ (fun b o e => Heap.get?_push_of_some _ e) (.d_str _ _) q
section
variable (P : Pg) (g : Sg)
mutual
noncomputable def okY : X → Bool
  | .loc .. => true
  | .cint .. => true
  | .cstr .. => true
  | .cnon .. => true
  | .cboo .. => true
  | .newl .. => true
  | .newls as _ => okYs as
  | .newd .. => true
  | .gv k _ => g.g (Str.ofString ((P.gtab.map (·.1)).getD k ""))
  | .neg a _ => okY a
  | .not a _ => okY a
  | .bin _ a b _ => okY a && okY b
  | .cmp _ a b _ => okY a && okY b
  | .bool _ as _ => okYs as
  | .ite t a b _ => okY t && okY a && okY b
  | .tup as _ _ => okYs as
  | .lst as _ => okYs as
  | .att a f _ => decide (f < P.flds.length) && plainB a && okY a
  | .idx a i _ => okY a && okY i
  | .slcTo a i _ _ => okY a && okY i
  | .slcFrom a i _ _ => isLoc a && okY a && okY i
  | .cal f as _ _ => g.g (Str.ofString ((P.fns.map (·.gname)).getD f "")) && ((P.fns.map (·.gname)).getD f "" != "") && okYs as
  | .new c as _ _ => g.g (Str.ofString (P.clsN.getD c "")) && decide (c < P.clsN.length) && decide (c < P.clss.length) && okYs as
  | .bi b as _ _ => g.g (Str.ofString b.name) && okYs as
  | .met a _ as ap p => plainB a && (ap.endLine == p.line) && decide (as.length < 30) && okY a && okYs as
  | .jrev a l ap _ _ p => plainB a && (ap.endLine == p.line) && g.g (Str.ofString "reversed") && okY a && okY l
  | .comp e it _ sc _ => compOk P g e sc && okY it
  | .mb a _ as ap p => plainB a && (ap.endLine == p.line) && decide (as.length < 30) && okY a && okYs as
noncomputable def okYs : Xs → Bool
  | .nil => true
  | .cons x r => okY x && okYs r
end
end
theorem and2 {a b : Bool} (h : (a && b) = true) : a = true ∧ b = true := by
  cases a
  · cases h
  · exact ⟨rfl, h⟩
variable (W : WdOK Γ) (EK : EOK env ns) (g : Sg) (hg : GOK g env ns)
include W EK hg
mutual
theorem semX : ∀ x : X, okY Γ.P g x = true → SemX Γ n env ns x
  | .loc i p, _ => sem_loc EK
  | .cint .., _ => sem_cint
  | .cstr .., _ => sem_cstr
  | .cnon .., _ => sem_cnon
  | .cboo .., _ => sem_cboo
  | .newl .., _ => sem_newl
  | .newls as _, h => sem_newls (semXs as h)
  | .newd .., _ => sem_newd W
  | .gv k _, h => sem_gv W EK (hg.k h)
  | .neg a _, h => sem_neg (semX a h)
  | .not a _, h => sem_not (semX a h)
  | .bin _ a b _, h => sem_bin (semX a (and2 h).1) (semX b (and2 h).2)
  | .cmp _ a b _, h => sem_cmp (semX a (and2 h).1) (semX b (and2 h).2)
  | .bool _ as _, h => sem_bool (semXs as h)
  | .ite t a b _, h => sem_ite (semX t (and2 (and2 h).1).1) (semX a (and2 (and2 h).1).2) (semX b (and2 h).2)
  | .tup as _ _, h => sem_tup (semXs as h)
  | .lst as _, h => sem_lst (semXs as h)
  | .att a f _, h => sem_att W (semX a (and2 h).2) (of_decide_eq_true (and2 (and2 h).1).1) (and2 (and2 h).1).2
  | .idx a i _, h => sem_idx (semX a (and2 h).1) (semX i (and2 h).2)
  | .slcTo a i _ _, h => sem_slcTo (semX a (and2 h).1) (semX i (and2 h).2)
  | .slcFrom a i _ _, h => sem_slcFrom (and2 (and2 h).1).1 (semX a (and2 (and2 h).1).2) (semX i (and2 h).2)
  | .cal f as _ _, h => sem_cal W EK (semXs as (and2 h).2) (hg.k (and2 (and2 h).1).1) (and2 (and2 h).1).2
  | .new c as _ _, h => sem_new W EK (semXs as (and2 h).2) (hg.k (and2 (and2 (and2 h).1).1).1) (of_decide_eq_true (and2 (and2 (and2 h).1).1).2) (of_decide_eq_true (and2 (and2 h).1).2)
  | .bi b as _ _, h => sem_bi W EK (semXs as (and2 h).2) (hg.k (and2 h).1)
  | .met a _ as ap p, h => sem_met W (semX a (and2 (and2 h).1).2) (semXs as (and2 h).2) (and2 (and2 (and2 (and2 h).1).1).1).1 (and2 (and2 (and2 (and2 h).1).1).1).2 (of_decide_eq_true (and2 (and2 (and2 h).1).1).2)
  | .mb a _ as ap p, h => sem_mb (semX a (and2 (and2 h).1).2) (semXs as (and2 h).2) (and2 (and2 (and2 (and2 h).1).1).1).1 (and2 (and2 (and2 (and2 h).1).1).1).2 (of_decide_eq_true (and2 (and2 (and2 h).1).1).2)
  | .jrev a l _ _ _ _, h => sem_jrev W EK (semX a (and2 (and2 h).1).2) (semX l (and2 h).2) (and2 (and2 (and2 (and2 h).1).1).1).1 (and2 (and2 (and2 (and2 h).1).1).1).2 (hg.k (and2 (and2 (and2 h).1).1).2)
  | .comp _ it _ _ _, h => sem_comp W EK hg (semX it (and2 h).2) (and2 h).1
theorem semXs : ∀ xs : Xs, okYs Γ.P g xs = true → AllS Γ n env ns xs
  | .nil, _ => trivial
  | .cons x r, h => ⟨semX x (and2 h).1, semXs r (and2 h).2⟩
end
end
end Mn
end
section
namespace Mn
noncomputable def StOK (env : Env) (ns : List String) : Prop := ∀ x ∈ ns, env.kindOf (Str.ofString x) = some .local ∨ (env.kindOf (Str.ofString x) = some .cell ∧ (env.cells.lookup (Str.ofString x)).isSome = true)
structure FrS (X : Addr → Prop) (F : Fz) (α : List SA) (env : Env) (ns : List String) (vars : Vars) (oa : Nat → Addr) (h : Heap) : Prop where
  frm : Frm F α env ns vars oa h
  fx : ∀ a ∈ fpOf env, X a
  ox : ∀ (i : Nat) (l : List D), vars[i]? = some (some (.own l)) → X (oa i)
  fr : ∀ a, h.get? a = none → X a
inductive FlR (F : Fz) (α : List SA) : Fl → Flow → Prop
  | nx : FlR F α .nx .next
  | bk : FlR F α .bk .brk
  | ct : FlR F α .ct .cont
  | rt {v : AV} {u : Value} : VR F α v u → FlR F α (.rt v) (.ret u)
theorem FrS.step {X : Addr → Prop} {F F' : Fz} {α α' : List SA} {env : Env} {ns : List String} {vars : Vars} {oa : Nat → Addr} {h h' : Heap} (f : FrS X F α env ns vars oa h) (x : ExtE F α h F' α' h') : FrS X F' α' env ns vars oa h' :=
  ⟨f.frm.ext x, f.fx, f.ox, fun a e => f.fr a (by
    cases e' : h.get? a with
    | none => rfl
    | some o => obtain ⟨o', h2⟩ := x.stay a o e'; rw [e] at h2; cases h2)⟩
section
variable (Γ : Wd)
noncomputable def PostS (X : Addr → Prop) (F : Fz) (α : List SA) (env : Env) (ns : List String) (s : Shared) (Q : Fl → Vars → List AO → Prop) (f : Flow) (s' : Shared) : Prop :=
  ∃ F' α' st' vars' oa' fl, (∃ tk, s' = { s with heap := s'.heap, toks := tk }) ∧ Ext X F α s.heap F' α' s'.heap ∧ Inv Γ F' α' st' s'.heap ∧ FrS X F' α' env ns vars' oa' s'.heap ∧ FlR F' α' fl f ∧ Q fl vars' st'
noncomputable def SemSs (n : Nat) (env : Env) (ns : List String) (l : List Stmt) (W : Vars → List AO → (Fl → Vars → List AO → Prop) → Prop) : Prop :=
  ∀ (X : Addr → Prop) (A : Around) (s : Shared) (F : Fz) (α : List SA) (st : List AO) (vars : Vars) (oa : Nat → Addr) (Q : Fl → Vars → List AO → Prop), Room A n → Inv Γ F α st s.heap → FrS X F α env ns vars oa s.heap →
    W vars st Q → wpAny (model Γ.prog Γ.w) A (execs l env) (PostS Γ X F α env ns s Q) NE s
noncomputable def SemS (n : Nat) (env : Env) (ns : List String) (l : List Stmt) (W : Vars → List AO → (Fl → Vars → List AO → Prop) → Prop) : Prop :=
  ∀ (X : Addr → Prop) (A : Around) (s : Shared) (F : Fz) (α : List SA) (st : List AO) (vars : Vars) (oa : Nat → Addr) (Q : Fl → Vars → List AO → Prop), Room A n → Inv Γ F α st s.heap → FrS X F α env ns vars oa s.heap →
    W vars st Q → ∀ (rest : List Stmt) (K : Flow → Shared → Prop), (∀ f s', PostS Γ X F α env ns s Q f s' → (match f with | .next => wpAny (model Γ.prog Γ.w) A (execs rest env) K NE s' | f => K f s')) →
    wpAny (model Γ.prog Γ.w) A (execs (l ++ rest) env) K NE s
end
section
variable {Γ : Wd} {n : Nat} {env : Env} {ns : List String}
theorem SemS.one {x : Stmt} {W : Vars → List AO → (Fl → Vars → List AO → Prop) → Prop}
    (h : ∀ (X : Addr → Prop) (A : Around) (s : Shared) (F : Fz) (α : List SA) (st : List AO) (vars : Vars) (oa : Nat → Addr) (Q : Fl → Vars → List AO → Prop), Room A n → Inv Γ F α st s.heap → FrS X F α env ns vars oa s.heap →
      W vars st Q → wpAny (model Γ.prog Γ.w) A (exec x env) (PostS Γ X F α env ns s Q) NE s) : SemS Γ n env ns [x] W := by
  intro X A s F α st vars oa Q R I f w rest K k
  exact wpAny_execs_cons (wpAny_mono (h X A s F α st vars oa Q R I f w) (fun fl s' p => k fl s' p) fun _ _ e => e)
theorem PostS.mk {X : Addr → Prop} {F F' : Fz} {α α' : List SA} {s s' : Shared} {st' : List AO} {vars' : Vars} {oa' : Nat → Addr} {fl : Fl} {f : Flow} {Q : Fl → Vars → List AO → Prop} (hs : ∃ tk, s' = { s with heap := s'.heap, toks := tk }) (x : Ext X F α s.heap F' α' s'.heap) (I : Inv Γ F' α' st' s'.heap) (f' : FrS X F' α' env ns vars' oa' s'.heap) (r : FlR F' α' fl f) (q : Q fl vars' st') :
    PostS Γ X F α env ns s Q f s' := ⟨F', α', st', vars', oa', fl, hs, x, I, f', r, q⟩
theorem PostS.after {X : Addr → Prop} {F F₁ : Fz} {α α₁ : List SA} {s s₁ s' : Shared} {f : Flow} {Q : Fl → Vars → List AO → Prop} (hs : ∃ tk, s₁ = { s with heap := s₁.heap, toks := tk }) (x : Ext X F α s.heap F₁ α₁ s₁.heap) (p : PostS Γ X F₁ α₁ env ns s₁ Q f s') : PostS Γ X F α env ns s Q f s' := by
  obtain ⟨F', α', st', vars', oa', fl, e, y, I, g, r, q⟩ := p
  exact ⟨F', α', st', vars', oa', fl, tr_trans hs e, x.trans y, I, g, r, q⟩
theorem PostS.imp {X : Addr → Prop} {F : Fz} {α : List SA} {s s' : Shared} {f : Flow} {Q Q' : Fl → Vars → List AO → Prop} (p : PostS Γ X F α env ns s Q f s') (h : ∀ fl vs st, Q fl vs st → Q' fl vs st) : PostS Γ X F α env ns s Q' f s' := by
  obtain ⟨F', α', st', vars', oa', fl, e, y, I, g, r, q⟩ := p
  exact ⟨F', α', st', vars', oa', fl, e, y, I, g, r, h _ _ _ q⟩
theorem sameBut_ext {X : Addr → Prop} {F : Fz} {α : List SA} {a : Addr} {h h' : Heap} (hs : Heap.SameBut a h h') (hx : X a) (hl : ∃ o, h'.get? a = some o) : Ext X F α h F α h' := by
  refine ⟨.refl F, ⟨[], by simp, by simp⟩, fun b o e _ hb => ⟨?_, rfl⟩, fun b o e => ?_⟩
  · exact (hs.2 b (fun c => hb (c ▸ hx))).trans e
  · by_cases c : b = a
    · subst c; exact hl
    · exact ⟨o, (hs.2 b c).trans e⟩
theorem store_A (SO : StOK env ns) (EK : EOK env ns) {X : Addr → Prop} {A : Around} {s : Shared} {F : Fz} {α : List SA} {st : List AO} {vars : Vars} {oa : Nat → Addr} {i : Nat} {av : AV} {v : Value} (I : Inv Γ F α st s.heap) (f : FrS X F α env ns vars oa s.heap) (hi : i < vars.length) (hv : VR F α av v) {Q : Unit → Shared → Prop}
    (h : ∀ h' tk, Inv Γ F α st h' → Ext X F α s.heap F α h' → FrS X F α env ns (vars.set i (some av)) oa h' → (∀ b, b ∉ fpOf env → h'.get? b = s.heap.get? b) → Q () { s with heap := h', toks := tk }) :
    wpAny (model Γ.prog Γ.w) A (storeName env (Str.ofString (ns.getD i "")) v) Q NE s := by
  have hin : i < ns.length := by rw [← f.frm.len]; exact hi
  have hx : ns[i]? = some ns[i] := List.getElem?_eq_getElem hin
  rw [List.getD_eq_getElem?_getD, hx]
  refine st_name EK.kind EK.cn f.frm.hn f.frm.cells (SO _ (List.getElem_mem hin)) fun h' tk b hb hs hnew hkeep hns hcl => ?_
  obtain ⟨hF, hα, o, ho⟩ := f.frm.fp b hb
  have hlb : ∃ o, h'.get? b = some o := by
    rcases List.mem_cons.mp hb with e | hb'
    · obtain ⟨m, o, _, _, ho', _⟩ := hns; rw [e]; exact ⟨o, ho'⟩
    · obtain ⟨v, o, ho', _⟩ := hcl b hb'; exact ⟨o, ho'⟩
  have live : ∀ a o, s.heap.get? a = some o → ∃ o', h'.get? a = some o' := fun a o e => by
    by_cases c : a = b
    · subst c; exact hlb
    · exact ⟨o, (hs.2 a c).trans e⟩
  refine h h' tk (I.sameBut hs hF hα) (sameBut_ext hs (f.fx b hb) hlb) ⟨⟨hns, by rw [List.length_set]; exact f.frm.len, fun j y aw hy hw => ?_, fun a ha => ?_, fun j l e => ?_, fun j k l m ej ek hjk => ?_, hcl⟩, f.fx, fun j l e => ?_, fun a e => f.fr a ?_⟩ fun c hc => hs.2 c fun e => hc (e ▸ hb)
  · by_cases hj : j = i
    · subst hj
      rw [List.getElem?_set_self hi] at hw
      have e1 : aw = av := by cases hw; rfl
      subst e1
      have e2 : y = ns[j] := by rw [hx] at hy; cases hy; rfl
      subst e2
      refine ⟨v, hnew, ?_⟩
      cases aw with
      | own l => exact hv.elim
      | d y => exact hv
      | ob k => exact hv
    · rw [List.getElem?_set_ne (fun e => hj e.symm)] at hw
      obtain ⟨u, hu, hr⟩ := f.frm.at_ j y aw hy hw
      have hjn : j < ns.length := (List.getElem?_eq_some_iff.mp hy).1
      have hne : Str.ofString y ≠ Str.ofString ns[i] := fun e => by
        have hy' : y = ns[j] := by rw [List.getElem?_eq_getElem hjn] at hy; cases hy; rfl
        have h1 : (ns.map Str.ofString)[j]'(by rw [List.length_map]; exact hjn) = (ns.map Str.ofString)[i]'(by rw [List.length_map]; exact hin) := by
          rw [List.getElem_map, List.getElem_map, ← hy']; exact e
        exact hj ((List.getElem_inj EK.nd).mp h1)
      refine ⟨u, hkeep _ _ hne hu, ?_⟩
      cases aw with
      | d z => exact hr
      | ob k => exact hr
      | own l =>
        obtain ⟨e1, vs, ⟨k, hk⟩, hq⟩ := hr
        refine ⟨e1, vs, ⟨k, (hs.2 _ fun e => ?_).trans hk⟩, hq⟩
        exact (f.frm.own j l hw).2.2 (e ▸ hb)
  · obtain ⟨h1, h2, o', h3⟩ := f.frm.fp a ha
    obtain ⟨o'', h4⟩ := live a o' h3
    exact ⟨h1, h2, o'', h4⟩
  · by_cases hj : j = i
    · subst hj; rw [List.getElem?_set_self hi] at e; cases e; exact hv.elim
    · rw [List.getElem?_set_ne (fun e => hj e.symm)] at e; exact f.frm.own j l e
  · have nj : j ≠ i := fun c => by subst c; rw [List.getElem?_set_self hi] at ej; cases ej; exact hv.elim
    have nk : k ≠ i := fun c => by subst c; rw [List.getElem?_set_self hi] at ek; cases ek; exact hv.elim
    rw [List.getElem?_set_ne (fun e => nj e.symm)] at ej
    rw [List.getElem?_set_ne (fun e => nk e.symm)] at ek
    exact f.frm.oinj j k l m ej ek hjk
  · by_cases hj : j = i
    · subst hj; rw [List.getElem?_set_self hi] at e; cases e; exact hv.elim
    · rw [List.getElem?_set_ne (fun e => hj e.symm)] at e; exact f.ox j l e
  · cases e' : s.heap.get? a with
    | none => rfl
    | some o' => obtain ⟨o'', h2⟩ := live a o' e'; rw [e] at h2; cases h2
end
end Mn
end
section
namespace Mn
section
variable {Γ : Wd} {n : Nat} {env : Env} {ns : List String}
noncomputable def notC : X → Bool
  | .comp .. => false
  | _ => true
theorem noSwap (P : Pg) (x : X) (t : Option PySem.Expr) (k : Nat) (h : notC x = true) : swapsWith (toE P ns x) t k env = pure false := by
  cases x <;> first | rfl | cases h
theorem assign_names (SO : StOK env ns) (EK : EOK env ns) {X : Addr → Prop} {A : Around} {F : Fz} {α : List SA} {st : List AO} {oa : Nat → Addr} (is : List (Nat × Pos)) : ∀ (l : List D) (us : List Value) (s : Shared) (vars vars' : Vars), is.length = l.length → Inv Γ F α st s.heap → FrS X F α env ns vars oa s.heap → DRs F l us →
    (is.zip l).foldlM (fun (vs : Vars) (q : (Nat × Pos) × D) => if q.1.1 < vs.length then some (vs.set q.1.1 (some (.d q.2))) else none) vars = some vars' → ∀ {Q : Unit → Shared → Prop},
    (∀ h' tk, Inv Γ F α st h' → Ext X F α s.heap F α h' → FrS X F α env ns vars' oa h' → (∀ b o, b ∉ fpOf env → s.heap.get? b = some o → h'.get? b = some o) → Q () { s with heap := h', toks := tk }) →
    wpAny (model Γ.prog Γ.w) A (assignInOrder ((assignEach (is.map fun q => nmE ns q.1 q.2) env).map (·.2)) us) Q NE s := by
  induction is with
  | nil =>
    intro l us s vars vars' hl I f r e Q h
    cases r with
    | nil =>
      cases e
      exact wpAny_pure (h s.heap s.toks I (.refl _ _ _) f fun _ _ _ e => e)
    | cons => cases hl
  | cons q is ih =>
    intro l us s vars vars' hl I f r e Q h
    obtain ⟨i, p⟩ := q
    cases r with
    | nil => cases hl
    | @cons d u l us hd hr =>
      rw [List.zip_cons_cons, List.foldlM_cons] at e
      by_cases hi : i < vars.length
      · rw [if_pos hi] at e
        show wpAny _ A (do holding us (assign (nmE ns i p) env u); assignInOrder ((assignEach (is.map fun q => nmE ns q.1 q.2) env).map (·.2)) us) Q NE s
        refine wpAny_bind (wpAny_holding (assign_Name (store_A SO EK (av := .d d) I f hi hd fun h₁ tk I₁ x₁ f₁ k₁ => ?_)))
        refine ih l us { s with heap := h₁, toks := tk } _ vars' (Nat.succ.inj hl) I₁ f₁ hr e fun h₂ tk₂ I₂ x₂ f₂ k₂ => ?_
        exact h h₂ tk₂ I₂ (x₁.trans x₂) f₂ fun b o hb eb => k₂ b o hb ((k₁ b hb).trans eb)
      · rw [if_neg hi] at e; cases e
theorem each_names (is : List (Nat × Pos)) : (assignEach (is.map fun q => nmE ns q.1 q.2) env).length = is.length ∧ (assignEach (is.map fun q => nmE ns q.1 q.2) env).findIdx? (·.1) = none := by
  induction is with
  | nil => exact ⟨rfl, rfl⟩
  | cons q is ih =>
    refine ⟨congrArg Nat.succ ih.1, ?_⟩
    show ((false, assign (nmE ns q.1 q.2) env) :: assignEach (is.map fun q => nmE ns q.1 q.2) env).findIdx? (·.1) = none
    rw [List.findIdx?_cons, ih.2]; rfl
theorem assign_T (SO : StOK env ns) (EK : EOK env ns) {X : Addr → Prop} {A : Around} (hh : A.handled = none) {s : Shared} {F : Fz} {α : List SA} {st : List AO} {vars vars' : Vars} {oa : Nat → Addr} {t : Tg} {av : AV} {v : Value} (I : Inv Γ F α st s.heap) (f : FrS X F α env ns vars oa s.heap) (hv : VR F α av v) (e : setT t av vars = some vars') {Q : Unit → Shared → Prop}
    (h : ∀ h' tk, Inv Γ F α st h' → Ext X F α s.heap F α h' → FrS X F α env ns vars' oa h' → (∀ b o, b ∉ fpOf env → s.heap.get? b = some o → h'.get? b = some o) → Q () { s with heap := h', toks := tk }) :
    wpAny (model Γ.prog Γ.w) A (assign (toT ns t) env v) Q NE s := by
  cases t with
  | nm i p =>
    replace e : (if i < vars.length then some (vars.set i (some av)) else none) = some vars' := e
    by_cases hi : i < vars.length
    · rw [if_pos hi] at e
      cases e
      exact assign_Name (store_A SO EK I f hi hv fun h₁ tk I₁ x₁ f₁ k₁ => h h₁ tk I₁ x₁ f₁ fun b o hb eb => (k₁ b hb).trans eb)
    · rw [if_neg hi] at e; cases e
  | tp is k p =>
    cases av with
    | d y =>
      cases y with
      | tup l =>
        replace e : (if is.length = l.length then (is.zip l).foldlM (fun (vs : Vars) (q : (Nat × Pos) × D) => if q.1.1 < vs.length then some (vs.set q.1.1 (some (.d q.2))) else none) vars else none) = some vars' := e
        by_cases hl : is.length = l.length
        · rw [if_pos hl] at e
          obtain ⟨a, us, rfl, ht, hr⟩ := DR.tupAt I.agree hv
          have E := each_names (env := env) (ns := ns) is
          refine wpAny_assign_Tuple hh ht (by rw [E.1, hl, hr.length, List.size_toArray]) E.2 fun h₁ k₁ => ?_
          have kk : ∀ b o, s.heap.get? b = some o → h₁.get? b = some o := fun b o eb => k₁ b o (fun c => by subst c; rw [get_size _ (Nat.le_refl _)] at eb; cases eb) eb
          have x₁ : ExtE F α s.heap F α h₁ := ext_keeps F α kk
          refine assign_names SO EK is l us { s with heap := h₁ } vars vars' hl (I.keeps kk) (f.step x₁) hr e fun h₂ tk₂ I₂ x₂ f₂ k₂ => ?_
          exact h h₂ tk₂ I₂ (Ext.trans x₁.ofE x₂) f₂ fun b o hb eb => k₂ b o hb (kk b o eb)
        · rw [if_neg hl] at e; cases e
      | _ => cases e
    | _ => cases e
abbrev wX (Γ : Wd) (n : Nat) := wpX Γ.P (CallOK Γ n) (NewOK Γ n)
abbrev wS (Γ : Wd) (n : Nat) := wpS Γ.P (CallOK Γ n) (NewOK Γ n)
abbrev wSs (Γ : Wd) (n : Nat) := wpSs Γ.P (CallOK Γ n) (NewOK Γ n)
theorem noStores (P : Pg) {x : X} (hx : (match x with | .tup .. => false | _ => true) = true) (is : List PySem.Expr) (k : Nat) (p : Pos) : swappedStores [.Tuple is k p] (toE P ns x) env = pure none := by
  cases x <;> first | rfl | cases hx
noncomputable def tgOK : Tg → X → Bool
  | .tp .., .tup .. => false
  | _, _ => true
theorem st_asg (SO : StOK env ns) (EK : EOK env ns) {t : Tg} {x : X} {p : Pos} (hx : SemX Γ n env ns x) (hc : notC x = true) (ht : tgOK t x = true) : SemS Γ n env ns (toS Γ.P ns (.asg t x p)) (wS Γ n (.asg t x p)) := by
  refine .one fun X A s F α st vars oa Q R I f w => ?_
  have key : ∀ {Q' : Flow → Shared → Prop}, (∀ s', PostS Γ X F α env ns s Q .next s' → Q' .next s') → wpAny (model Γ.prog Γ.w) A (eval (toE Γ.P ns x) env) (fun v s₁ => wpAny (model Γ.prog Γ.w) A (assign (toT ns t) env v) (fun _ => Q' .next) NE s₁) NE s := by
    intro Q' hQ
    refine hx.step R I f.frm w fun F₁ α₁ st₁ av v s₁ hs x₁ I₁ _ r₁ q => ?_
    have f₁ := f.step x₁
    cases e : setT t av vars with
    | none => rw [e] at q; exact q.elim
    | some vars' =>
      rw [e] at q
      refine assign_T SO EK R.1 I₁ f₁ r₁ e fun h' tk I₂ x₂ f₂ _ => hQ _ ?_
      exact .mk (tr_trans hs ⟨tk, rfl⟩) (Ext.trans x₁.ofE x₂) I₂ f₂ .nx q
  cases t with
  | nm i p' =>
    refine wpAny_Assign_Name (x := Str.ofString (ns.getD i "")) (hx.step R I f.frm w fun F₁ α₁ st₁ av v s₁ hs x₁ I₁ _ r₁ q => ?_) (noSwap _ _ _ _ hc)
    replace q : (match (if i < vars.length then some (vars.set i (some av)) else none) with | some vs => Q .nx vs st₁ | none => False) := q
    by_cases hi : i < vars.length
    · rw [if_pos hi] at q
      exact store_A SO EK I₁ (f.step x₁) hi r₁ fun h' tk I₂ x₂ f₂ _ => .mk (tr_trans hs ⟨tk, rfl⟩) (Ext.trans x₁.ofE x₂) I₂ f₂ .nx q
    · rw [if_neg hi] at q; exact q.elim
  | tp is k p' =>
    exact Assign_Tuple (key fun _ h => h) (noSwap (env := env) Γ.P x (some (.Tuple (is.map fun q => nmE ns q.1 q.2) k p')) p.line hc) (noStores _ (by cases x <;> first | rfl | cases ht) _ _ _)
theorem st_asgA (W : WdOK Γ) {a x : X} {fd : Nat} {pt p : Pos} (ha : SemX Γ n env ns a) (hx : SemX Γ n env ns x) (hc : notC x = true) (hf : fd < Γ.P.flds.length) : SemS Γ n env ns (toS Γ.P ns (.asgA a fd x pt p)) (wS Γ n (.asgA a fd x pt p)) := by
  refine .one fun X A s F α st vars oa Q R I f w => ?_
  refine plainObj_wpAny_Assign_Attribute (hx.step R I f.frm w fun F₁ α₁ st₁ av v s₁ hs x₁ I₁ f₁ r₁ q => ha.step R I₁ f₁ q fun F₂ α₂ st₂ bv u s₂ hs₂ x₂ I₂ f₂ r₂ q => ?_) (noSwap _ _ _ _ hc)
  obtain ⟨k, c, fs, rfl, ho, hz, q⟩ := q
  obtain ⟨pp, hp, rfl⟩ := r₂
  refine setattr_A W I₂ hf ho hp (x₂.vr r₁) hz fun h' tk I₃ x₃ => ?_
  have g : FrS X F₂ α₂ env ns vars oa h' := ((f.step x₁).step x₂).step x₃
  exact .mk (tr_trans hs (tr_trans hs₂ ⟨tk, rfl⟩)) (Ext.ofE (x₁.trans (x₂.trans x₃))) I₃ g .nx q
theorem st_asgI {a k x : X} {pt p : Pos} (hc : notC x = true) (ha : SemX Γ n env ns a) (hk : SemX Γ n env ns k) (hx : SemX Γ n env ns x) : SemS Γ n env ns (toS Γ.P ns (.asgI a k x pt p)) (wS Γ n (.asgI a k x pt p)) := by
  refine .one fun X A s F α st vars oa Q R I f w => ?_
  refine wpAny_Assign_Subscript (hx.step R I f.frm w fun F₁ α₁ st₁ av v s₁ hs x₁ I₁ f₁ r₁ q => ha.step R I₁ f₁ q fun F₂ α₂ st₂ bv u s₂ hs₂ x₂ I₂ f₂ r₂ q => hk.step R I₂ f₂ q fun F₃ α₃ st₃ kv w s₃ hs₃ x₃ I₃ f₃ r₃ q => ?_) (noSwap _ _ _ _ hc)
  replace r₁ := x₃.vr (x₂.vr r₁)
  replace r₂ := x₃.vr r₂
  obtain ⟨m, kd, vd, ao, ao', rfl, rfl, rfl, ho, e, q⟩ := q
  obtain ⟨pp, hp, rfl⟩ := r₂
  refine setItem_A I₃ (by have := room_u R; exact lin this) ho hp e r₃ r₁ fun h' tk I₄ x₄ => ?_
  have g : FrS X F₃ α₃ env ns vars oa h' := (((f.step x₁).step x₂).step x₃).step x₄
  exact .mk (tr_trans hs (tr_trans hs₂ (tr_trans hs₃ ⟨tk, rfl⟩))) (Ext.ofE (x₁.trans (x₂.trans (x₃.trans x₄)))) I₄ g .nx q
theorem st_delI {a k : X} {pt p : Pos} (ha : SemX Γ n env ns a) (hk : SemX Γ n env ns k) : SemS Γ n env ns (toS Γ.P ns (.delI a k pt p)) (wS Γ n (.delI a k pt p)) := by
  refine .one fun X A s F α st vars oa Q R I f w => ?_
  show wpAny _ A (exec (.Delete [PySem.Expr.Subscript (toE Γ.P ns a) (toE Γ.P ns k) pt] p) env) _ _ s
  rw [arm_exec_Delete]
  refine wpAny_bind (wpAny_standAt ?_)
  have e : deleteEach [PySem.Expr.Subscript (toE Γ.P ns a) (toE Γ.P ns k) pt] env = (do delete (.Subscript (toE Γ.P ns a) (toE Γ.P ns k) pt) env; deleteEach [] env) := rfl
  rw [e]
  refine wpAny_bind (wpAny_bind (delete_Subscript (ha.step R I f.frm w fun F₂ α₂ st₂ bv u s₂ hs₂ x₂ I₂ f₂ r₂ q => hk.step R I₂ f₂ q fun F₃ α₃ st₃ kv w s₃ hs₃ x₃ I₃ f₃ r₃ q => ?_)))
  replace r₂ := x₃.vr r₂
  obtain ⟨m, kd, es, rfl, rfl, ho, h1, h2, q⟩ := q
  obtain ⟨pp, hp, rfl⟩ := r₂
  obtain ⟨t, rfl⟩ : ∃ t, w = .int kd t := by cases r₃; exact ⟨_, rfl⟩
  refine delItem_A I₃ ho hp h1 h2 fun h' tk I₄ x₄ => ?_
  have g : FrS X F₃ α₃ env ns vars oa h' := ((f.step x₂).step x₃).step x₄
  exact wpAny_pure (wpAny_pure (.mk (tr_trans hs₂ (tr_trans hs₃ ⟨tk, rfl⟩)) (Ext.ofE (x₂.trans (x₃.trans x₄))) I₄ g .nx q))
theorem st_exp (EK : EOK env ns) {x : X} {p : Pos} (hc : notC x = true) (hx : SemX Γ n env ns x) : SemS Γ n env ns (toS Γ.P ns (.exp x p)) (wS Γ n (.exp x p)) := by
  refine .one fun X A s F α st vars oa Q R I f w => ?_
  refine wpAny_Expr_any (hx.step R I f.frm w fun F₁ α₁ st₁ av v s₁ hs x₁ I₁ f₁ r₁ q => ?_) EK.inter (noSwap _ _ _ _ hc)
  exact .mk hs x₁.ofE I₁ (f.step x₁) .nx q
theorem st_ret {x : X} {p : Pos} (hx : SemX Γ n env ns x) : SemS Γ n env ns (toS Γ.P ns (.ret x p)) (wS Γ n (.ret x p)) := by
  refine .one fun X A s F α st vars oa Q R I f w => ?_
  refine wpAny_Return_some (hx.step R I f.frm w fun F₁ α₁ st₁ av v s₁ hs x₁ I₁ f₁ r₁ q => ?_)
  exact .mk hs x₁.ofE I₁ (f.step x₁) (.rt r₁) q
theorem st_pas {p : Pos} : SemS Γ n env ns (toS Γ.P ns (.pas p)) (wS Γ n (.pas p)) := by
  refine .one fun X A s F α st vars oa Q R I f w => ?_
  exact wpAny_Pass (.mk ⟨_, rfl⟩ (.refl _ _ _) I f .nx w)
theorem st_brk {p : Pos} : SemS Γ n env ns (toS Γ.P ns (.brk p)) (wS Γ n (.brk p)) := by
  refine .one fun X A s F α st vars oa Q R I f w => ?_
  exact wpAny_Break (.mk ⟨_, rfl⟩ (.refl _ _ _) I f .bk w)
theorem st_con {p : Pos} : SemS Γ n env ns (toS Γ.P ns (.con p)) (wS Γ n (.con p)) := by
  refine .one fun X A s F α st vars oa Q R I f w => ?_
  exact wpAny_Continue (.mk ⟨_, rfl⟩ (.refl _ _ _) I f .ct w)
theorem st_iff {t : X} {a b : Ss} {p : Pos} (ht : SemX Γ n env ns t) (ha : SemSs Γ n env ns (toSs Γ.P ns a) (wSs Γ n a)) (hb : SemSs Γ n env ns (toSs Γ.P ns b) (wSs Γ n b)) : SemS Γ n env ns (toS Γ.P ns (.iff t a b p)) (wS Γ n (.iff t a b p)) := by
  refine .one fun X A s F α st vars oa Q R I f w => ?_
  refine wpAny_If (ht.stepT R I f.frm w fun F₁ α₁ st₁ c s₁ hs x₁ I₁ f₁ q => ?_)
  cases c with
  | true => exact wpAny_mono (ha X A s₁ F₁ α₁ st₁ vars oa Q R I₁ (f.step x₁) q) (fun _ _ p => p.after hs x₁.ofE) fun _ _ e => e
  | false => exact wpAny_mono (hb X A s₁ F₁ α₁ st₁ vars oa Q R I₁ (f.step x₁) q) (fun _ _ p => p.after hs x₁.ofE) fun _ _ e => e
theorem ss_nil : SemSs Γ n env ns (toSs Γ.P ns .nil) (wSs Γ n .nil) := by
  intro X A s F α st vars oa Q R I f w
  exact wpAny_execs_nil (.mk ⟨_, rfl⟩ (.refl _ _ _) I f .nx w)
theorem ss_cons {x : S} {r : Ss} (hx : SemS Γ n env ns (toS Γ.P ns x) (wS Γ n x)) (hr : SemSs Γ n env ns (toSs Γ.P ns r) (wSs Γ n r)) : SemSs Γ n env ns (toSs Γ.P ns (.cons x r)) (wSs Γ n (.cons x r)) := by
  intro X A s F α st vars oa Q R I f w
  refine hx X A s F α st vars oa _ R I f w (toSs Γ.P ns r) _ fun fl s' p => ?_
  obtain ⟨F', α', st', vars', oa', g, e, y, I', f', rr, q⟩ := p
  cases rr with
  | nx => exact wpAny_mono (hr X A s' F' α' st' vars' oa' Q R I' f' q) (fun _ _ p => p.after e y) fun _ _ e => e
  | bk => exact .mk e y I' f' .bk q
  | ct => exact .mk e y I' f' .ct q
  | rt r => exact .mk e y I' f' (.rt r) q
end
end Mn
end
section
namespace Mn
section
variable {Γ : Wd} {n : Nat} {env : Env} {ns : List String}
theorem st_whl {t : X} {b : Ss} {p : Pos} (ht : SemX Γ n env ns t) (hb : SemSs Γ n env ns (toSs Γ.P ns b) (wSs Γ n b)) : SemS Γ n env ns (toS Γ.P ns (.whl t b p)) (wS Γ n (.whl t b p)) := by
  refine .one fun X A s F α st vars oa Q R I f w => ?_
  obtain ⟨k, w⟩ := w
  refine wpAny_While ?_
  refine codeAny_whileLoop (R := fun r s' => match r with | .ok f => PostS Γ X F α env ns s Q f s' | .error e => cameBackBy (model Γ.prog Γ.w) A env NE e s')
    (fun k s' => ∃ F' α' st' vars' oa', (∃ tk, s' = { s with heap := s'.heap, toks := tk }) ∧ Ext X F α s.heap F' α' s'.heap ∧ Inv Γ F' α' st' s'.heap ∧ FrS X F' α' env ns vars' oa' s'.heap ∧
      loopW (fun vs st Q => wpX Γ.P (CallOK Γ n) (NewOK Γ n) t true vs st Q) (fun vs st Q => wpSs Γ.P (CallOK Γ n) (NewOK Γ n) b vs st Q) k vars' st' Q) ?_ k ⟨F, α, st, vars, oa, ⟨_, rfl⟩, .refl _ _ _, I, f, w⟩
  rintro k s₁ ⟨F₁, α₁, st₁, vars₁, oa₁, hs₁, x₁, I₁, f₁, w₁⟩
  cases k with
  | zero => exact w₁.elim
  | succ k =>
    refine wpAny_mono (ht.stepT R I₁ f₁.frm w₁ (K := fun c s₂ => if c = true then wpAny (model Γ.prog Γ.w) A (execs (toSs Γ.P ns b) env) (fun f s₃ => match f with
            | .next | .cont => ∃ m, m < k + 1 ∧ (∃ F' α' st' vars' oa', (∃ tk, s₃ = { s with heap := s₃.heap, toks := tk }) ∧ Ext X F α s.heap F' α' s₃.heap ∧ Inv Γ F' α' st' s₃.heap ∧ FrS X F' α' env ns vars' oa' s₃.heap ∧
      loopW (fun vs st Q => wpX Γ.P (CallOK Γ n) (NewOK Γ n) t true vs st Q) (fun vs st Q => wpSs Γ.P (CallOK Γ n) (NewOK Γ n) b vs st Q) m vars' st' Q)
            | .brk => PostS Γ X F α env ns s Q .next s₃
            | .ret v => PostS Γ X F α env ns s Q (.ret v) s₃) NE s₂ else PostS Γ X F α env ns s Q .next s₂) fun F₂ α₂ st₂ c s₂ hs₂ x₂ I₂ _ q => ?_) (fun c s₂ h => ?_) fun _ _ e => e.elim
    · have f₂ := f₁.step x₂
      have hs := tr_trans hs₁ hs₂
      have x := x₁.trans x₂.ofE
      cases c with
      | false => exact .mk hs x I₂ f₂ .nx q
      | true =>
        rw [if_pos rfl]
        refine wpAny_mono (hb X A s₂ F₂ α₂ st₂ vars₁ oa₁ _ R I₂ f₂ q) (fun fl s₃ p => ?_) fun _ _ e => e
        obtain ⟨F₃, α₃, st₃, vars₃, oa₃, g, hs₃, x₃, I₃, f₃, r, q⟩ := p
        cases r with
        | nx => exact ⟨k, Nat.lt_succ_self k, F₃, α₃, st₃, vars₃, oa₃, tr_trans hs hs₃, x.trans x₃, I₃, f₃, q⟩
        | ct => exact ⟨k, Nat.lt_succ_self k, F₃, α₃, st₃, vars₃, oa₃, tr_trans hs hs₃, x.trans x₃, I₃, f₃, q⟩
        | bk => exact .mk (tr_trans hs hs₃) (x.trans x₃) I₃ f₃ .nx q
        | rt r => exact .mk (tr_trans hs hs₃) (x.trans x₃) I₃ f₃ (.rt r) q
    · cases c with
      | true =>
        rw [if_pos rfl] at h ⊢
        exact wpAny_mono h (fun fl s₃ p => by cases fl <;> exact p) fun _ _ e => e.elim
      | false =>
        rw [if_neg Bool.false_ne_true] at h ⊢
        exact wpAny_execs_nil h
theorem st_ownN (SO : StOK env ns) (EK : EOK env ns) {i : Nat} {as : Xs} {pt pl p : Pos} (ha : AllS Γ n env ns as) : SemS Γ n env ns (toS Γ.P ns (.ownN i as pt pl p)) (wS Γ n (.ownN i as pt pl p)) := by
  refine .one fun X A s0 F0 α0 st0 vars oa Q R I0 f0 w => ?_
  obtain ⟨hi, q⟩ := w
  refine wpAny_Assign_Name (wpAny_List (sem_ds ha R I0 f0.frm q fun F α st l vs s hs0 x0 I fr r q => ⟨by rw [← r.length]; exact q.1, ?_⟩)) (by rfl)
  have f := f0.step x0
  replace q := q.2
  have hn := none_new (h := s.heap) rfl
  have g : (s.heap.push { cls := .type "list", data := .seq vs.toArray }).get? s.heap.objs.size = some { cls := .type "list", data := .seq vs.toArray } := Heap.get?_push_size s.heap rfl
  have kk : ∀ b o, s.heap.get? b = some o → (s.heap.push { cls := .type "list", data := .seq vs.toArray }).get? b = some o := fun b o e => Heap.get?_push_of_some _ e
  have x₁ : ExtE F α s.heap F α (s.heap.push { cls := .type "list", data := .seq vs.toArray }) := ext_keeps F α kk
  have f₁ := f.step x₁
  have I₁ := I.keeps kk
  have hin : i < ns.length := by rw [← f.frm.len]; exact hi
  have hx : ns[i]? = some ns[i] := List.getElem?_eq_getElem hin
  show wpAny _ A (storeName env (Str.ofString (ns.getD i "")) (.ref s.heap.objs.size)) _ _ { s with heap := s.heap.push { cls := .type "list", data := .seq vs.toArray } }
  rw [List.getD_eq_getElem?_getD, hx]
  refine st_name EK.kind EK.cn f₁.frm.hn f₁.frm.cells (SO _ (List.getElem_mem hin)) fun h' tk b hb hs hnew hkeep hns hcl => ?_
  obtain ⟨hF, hα, o, ho⟩ := f₁.frm.fp b hb
  have hbs : ∀ a ∈ fpOf env, a ≠ s.heap.objs.size := fun a ha c => by
    obtain ⟨_, _, o, e⟩ := f.frm.fp a ha
    rw [c, hn] at e; cases e
  have hlb : ∃ o, h'.get? b = some o := by
    rcases List.mem_cons.mp hb with e | hb'
    · obtain ⟨m, o, _, _, ho', _⟩ := hns; rw [e]; exact ⟨o, ho'⟩
    · obtain ⟨v, o, ho', _⟩ := hcl b hb'; exact ⟨o, ho'⟩
  have live : ∀ a o, (s.heap.push { cls := .type "list", data := .seq vs.toArray }).get? a = some o → ∃ o', h'.get? a = some o' := fun a o e => by
    by_cases c : a = b
    · subst c; exact hlb
    · exact ⟨o, (hs.2 a c).trans e⟩
  have gl : h'.get? s.heap.objs.size = some { cls := .type "list", data := .seq vs.toArray } := (hs.2 _ (fun c => hbs b hb c.symm)).trans g
  have own_ne : ∀ (j : Nat) (l : List D), vars[j]? = some (some (.own l)) → oa j ≠ s.heap.objs.size := fun j l e c => by
    obtain ⟨_, _, _, vs, ⟨k, hk⟩, _⟩ := own_lt f.frm e
    rw [c, hn] at hk; cases hk
  refine .mk (tr_trans hs0 ⟨tk, rfl⟩) (Ext.trans (x0.trans x₁).ofE (sameBut_ext hs (f.fx b hb) hlb)) (I₁.sameBut hs hF hα) (oa' := fun j => if j = i then s.heap.objs.size else oa j) (vars' := vars.set i (some (.own l))) ?_ .nx q
  refine ⟨⟨hns, by rw [List.length_set]; exact f.frm.len, fun j y aw hy hw => ?_, fun a ha => ?_, fun j l' e => ?_, fun j k l' m ej ek hjk => ?_, hcl⟩, f.fx, fun j l e => ?_, fun a e => f₁.fr a ?_⟩
  · by_cases hj : j = i
    · subst hj
      rw [List.getElem?_set_self hi] at hw
      cases hw
      have e2 : y = ns[j] := by rw [hx] at hy; cases hy; rfl
      subst e2
      refine ⟨_, hnew, ?_, vs, ⟨0, ?_⟩, r⟩
      · rw [if_pos rfl]
      · rw [if_pos rfl]; exact gl
    · rw [List.getElem?_set_ne (fun e => hj e.symm)] at hw
      obtain ⟨u, hu, hr⟩ := f₁.frm.at_ j y aw hy hw
      have hjn : j < ns.length := (List.getElem?_eq_some_iff.mp hy).1
      have hne : Str.ofString y ≠ Str.ofString ns[i] := fun e => by
        have hy' : y = ns[j] := by rw [List.getElem?_eq_getElem hjn] at hy; cases hy; rfl
        have h1 : (ns.map Str.ofString)[j]'(by rw [List.length_map]; exact hjn) = (ns.map Str.ofString)[i]'(by rw [List.length_map]; exact hin) := by
          rw [List.getElem_map, List.getElem_map, ← hy']; exact e
        exact hj ((List.getElem_inj EK.nd).mp h1)
      refine ⟨u, hkeep _ _ hne hu, ?_⟩
      cases aw with
      | d z => exact hr
      | ob k => exact hr
      | own l =>
        obtain ⟨e1, vs, ⟨k, hk⟩, hq⟩ := hr
        show u = .ref (if j = i then _ else oa j) ∧ _
        rw [if_neg hj]
        refine ⟨e1, vs, ⟨k, (hs.2 _ fun e => ?_).trans hk⟩, hq⟩
        exact (f.frm.own j l hw).2.2 (e ▸ hb)
  · obtain ⟨h1, h2, o', h3⟩ := f₁.frm.fp a ha
    obtain ⟨o'', h4⟩ := live a o' h3
    exact ⟨h1, h2, o'', h4⟩
  · by_cases hj : j = i
    · subst hj
      rw [if_pos rfl]
      exact ⟨I.fnone hn, I.anone hn, fun c => hbs _ c rfl⟩
    · rw [List.getElem?_set_ne (fun e => hj e.symm)] at e
      rw [if_neg hj]
      exact f.frm.own j l' e
  · by_cases nj : j = i
    · by_cases nk : k = i
      · exact absurd (nj.trans nk.symm) hjk
      · rw [if_pos nj, if_neg nk]
        rw [List.getElem?_set_ne (fun e => nk e.symm)] at ek
        exact (own_ne k m ek).symm
    · by_cases nk : k = i
      · rw [if_neg nj, if_pos nk]
        rw [List.getElem?_set_ne (fun e => nj e.symm)] at ej
        exact own_ne j l' ej
      · rw [if_neg nj, if_neg nk]
        rw [List.getElem?_set_ne (fun e => nj e.symm)] at ej
        rw [List.getElem?_set_ne (fun e => nk e.symm)] at ek
        exact f.frm.oinj j k l' m ej ek hjk
  · by_cases hj : j = i
    · subst hj; rw [if_pos rfl]; exact f.fr _ hn
    · rw [List.getElem?_set_ne (fun e => hj e.symm)] at e
      rw [if_neg hj]; exact f.ox j l e
  · cases e' : (s.heap.push { cls := .type "list", data := .seq vs.toArray }).get? a with
    | none => rfl
    | some o' => obtain ⟨o'', h2⟩ := live a o' e'; rw [e] at h2; cases h2
theorem own_set {X : Addr → Prop} {F F' : Fz} {α : List SA} {vars : Vars} {oa : Nat → Addr} {h h' : Heap} {i : Nat} {l : List D} {av : AV} (f : FrS X F α env ns vars oa h) (e : vars[i]? = some (some (.own l))) (S : F.Sub F') (hF : ∀ a, a ≠ oa i → F' a = F a) (hF' : (∃ m, av = .own m) → F' (oa i) = none)
    (hs : Heap.SameBut (oa i) h h') (hl : ∃ o, h'.get? (oa i) = some o) (hv : VRo F' α h' (oa i) av (.ref (oa i))) : FrS X F' α env ns (vars.set i (some av)) oa h' := by
  have hi : i < vars.length := (List.getElem?_eq_some_iff.mp e).1
  obtain ⟨o1, o2, o3⟩ := f.frm.own i l e
  have kp : ∀ a ∈ fpOf env, ∀ o, h.get? a = some o → h'.get? a = some o := fun a ha o eo => (hs.2 a (fun c => o3 (c ▸ ha))).trans eo
  obtain ⟨x, hx, hn, _⟩ := own_lt f.frm e
  have live : ∀ a o, h.get? a = some o → ∃ o', h'.get? a = some o' := fun a o ea => by
    by_cases c : a = oa i
    · subst c; exact hl
    · exact ⟨o, (hs.2 a c).trans ea⟩
  refine ⟨⟨?_, by rw [List.length_set]; exact f.frm.len, fun j y aw hy hw => ?_, fun a ha => ?_, fun j m ej => ?_, fun j k m m' ej ek hjk => ?_, fun c hc => ?_⟩, f.fx, fun j m ej => ?_, fun a ea => f.fr a ?_⟩
  · obtain ⟨m, o, es, ep, ho, r⟩ := f.frm.hn
    exact ⟨m, o, es, ep, kp _ (fp_locals env) _ ho, r⟩
  · by_cases hj : j = i
    · subst hj
      rw [List.getElem?_set_self hi] at hw
      cases hw
      have : x = y := by rw [hx] at hy; cases hy; rfl
      subst this
      exact ⟨_, hn.at kp, hv⟩
    · rw [List.getElem?_set_ne (fun e => hj e.symm)] at hw
      obtain ⟨u, hu, hr⟩ := f.frm.at_ j y aw hy hw
      refine ⟨u, hu.at kp, ?_⟩
      cases aw with
      | d z => exact DR.mono S hr
      | ob k => exact hr
      | own m =>
        obtain ⟨e1, vs, ⟨k, hk⟩, hq⟩ := hr
        exact ⟨e1, vs, ⟨k, (hs.2 _ (f.frm.oinj j i m l hw e hj)).trans hk⟩, hq.mono S⟩
  · obtain ⟨h1, h2, o', h3⟩ := f.frm.fp a ha
    exact ⟨(hF a fun c => o3 (c ▸ ha)).trans h1, h2, o', kp a ha o' h3⟩
  · by_cases hj : j = i
    · subst hj
      rw [List.getElem?_set_self hi] at ej
      cases ej
      exact ⟨hF' ⟨m, rfl⟩, o2, o3⟩
    · rw [List.getElem?_set_ne (fun e => hj e.symm)] at ej
      obtain ⟨p1, p2, p3⟩ := f.frm.own j m ej
      exact ⟨(hF _ (f.frm.oinj j i m l ej e hj)).trans p1, p2, p3⟩
  · have key : ∀ (j : Nat) (m : List D), (vars.set i (some av))[j]? = some (some (.own m)) → ∃ m, vars[j]? = some (some (.own m)) := fun j m ej => by
      by_cases hj : j = i
      · subst hj; exact ⟨l, e⟩
      · rw [List.getElem?_set_ne (fun e => hj e.symm)] at ej; exact ⟨m, ej⟩
    obtain ⟨m1, e1⟩ := key j m ej
    obtain ⟨m2, e2⟩ := key k m' ek
    exact f.frm.oinj j k m1 m2 e1 e2 hjk
  · obtain ⟨v, o, ho, hd⟩ := f.frm.cells c hc
    exact ⟨v, o, kp c (List.mem_cons_of_mem _ hc) _ ho, hd⟩
  · by_cases hj : j = i
    · subst hj; exact f.ox j l e
    · rw [List.getElem?_set_ne (fun e => hj e.symm)] at ej; exact f.ox j m ej
  · cases e' : h.get? a with
    | none => rfl
    | some o' => obtain ⟨o'', h2⟩ := live a o' e'; rw [ea] at h2; cases h2
theorem getD_own {vars : Vars} {i : Nat} {l : List D} (e : vars.getD i none = some (.own l)) : vars[i]? = some (some (.own l)) := by
  rw [List.getD_eq_getElem?_getD] at e
  cases h : vars[i]? with
  | none => rw [h] at e; cases e
  | some o => rw [h] at e; simpa using e
theorem st_frz {i : Nat} : SemS Γ n env ns (toS Γ.P ns (.frz i)) (wS Γ n (.frz i)) := by
  intro X A s F α st vars oa Q R I f w rest K k
  show wpAny _ A (execs rest env) _ _ s
  replace w : (match vars.getD i none with | some (.own l) => Q .nx (vars.set i (some (.d (.lst l)))) st | _ => False) := w
  cases e : vars.getD i none with
  | none => rw [e] at w; exact w.elim
  | some av =>
    cases av with
    | own l =>
      rw [e] at w
      have e' := getD_own e
      obtain ⟨x, hx, hn, vs, ⟨c, hl⟩, hr⟩ := own_lt f.frm e'
      obtain ⟨o1, o2, o3⟩ := f.frm.own i l e'
      obtain ⟨J, Y⟩ := I.freezeOld hl o1 o2
      have S : F.Sub (F.put (oa i) { cls := .type "list", data := .seq vs.toArray c }) := Fz.sub_put _ o1
      have g : FrS X (F.put (oa i) { cls := .type "list", data := .seq vs.toArray c }) α env ns (vars.set i (some (.d (.lst l)))) oa s.heap :=
        own_set f e' S (fun a ha => Fz.put_ne _ _ ha) (fun ⟨m, h⟩ => nomatch h) ⟨rfl, fun _ _ => rfl⟩ ⟨_, hl⟩ (DR.lst (Fz.put_self ..) rfl rfl (hr.mono S))
      exact k .next s (.mk ⟨_, rfl⟩ (Y.weak fun a o _ ha => ha ▸ f.ox i l e') J g .nx w)
    | _ => rw [e] at w; exact w.elim
theorem st_ownA {i : Nat} {x : X} {pn ap pc p : Pos} (EK : EOK env ns) (hx : SemX Γ n env ns x) (hl : (ap.endLine == pc.line) = true) : SemS Γ n env ns (toS Γ.P ns (.ownA i x pn ap pc p)) (wS Γ n (.ownA i x pn ap pc p)) := by
  refine .one fun X A s F α st vars oa Q R I f w => ?_
  replace w : (match vars.getD i none with | some (.own l) => wpX Γ.P (CallOK Γ n) (NewOK Γ n) x false vars st fun v st => (match v with | .d x => l.length ≤ big ∧ Q .nx (vars.set i (some (.own (l ++ [x])))) st | _ => False) | _ => False) := w
  cases e : vars.getD i none with
  | none => rw [e] at w; exact w.elim
  | some av =>
    cases av with
    | own l =>
      rw [e] at w
      have e' := getD_own e
      refine wpAny_Expr_any ?_ EK.inter (by rfl)
      have hcall := @methCall env ns (model Γ.prog Γ.w) A NE s Γ.P (.loc i pn) (Str.ofString "append") (.cons x .nil) ap pc (fun _ => PostS Γ X F α env ns s Q .next) rfl hl (by show 1 < 30; decide) ?_
      · exact hcall
      refine ld_var EK f.frm e fun v hv => ?_
      obtain ⟨rfl, vs, ⟨c, hg⟩, hr⟩ := hv
      refine getMethod_builtin (T := "list") ⟨_, hg, rfl⟩ PySem.F.plainAttrs_list PySem.F.slot_list_append PySem.F.type_list_append (fun a ea => by cases ea; exact ⟨_, hg, rfl⟩) ?_
      refine Calls.callWith_builtin (plain_xs (ns := ns) Γ.P _ (.cons x .nil)) (evalArgs_xs (ns := ns) (P := Γ.P) (xs := .cons x .nil) ?_)
      show wpAny _ A (spliced (backTo _ (starEach (toE Γ.P ns x :: toEs Γ.P ns .nil) env))) _ _ _
      rw [starE]
      refine Calls.spliced_cons (hx.step R I f.frm w fun F₁ α₁ st₁ av v s₁ hs x₁ I₁ f₁ r₁ q => ?_)
      refine Calls.spliced_nil ?_
      cases av with
      | d y =>
        obtain ⟨hz, q⟩ := q
        have g₁ := f.step x₁
        obtain ⟨_, _, _, us, ⟨c', hg'⟩, hr'⟩ := own_lt g₁.frm e'
        obtain ⟨o1, o2, o3⟩ := g₁.frm.own i l e'
        refine call_meets PySem.F.slot_list_append ⟨_, hg', rfl⟩ PySem.F.entry_list_append (PySem.F.args_list_append_2 _ _) (list_append (oa i) us.toArray c' v (by rw [List.size_toArray, ← hr'.length]; exact hz)) ⟨hg', ?_⟩
        have eo : ∃ n', (Obj.mapSeq (fun xs => xs.push v) { cls := .type "list", data := .seq us.toArray c' }) = { cls := .type "list", data := .seq (us ++ [v]).toArray n' } := by
          rw [show (us ++ [v]).toArray = us.toArray.push v from (List.push_toArray ..).symm]
          exact ⟨_, rfl⟩
        obtain ⟨c₂, eo⟩ := eo
        have gg : (s₁.heap.update (oa i) (Obj.mapSeq fun xs => xs.push v)).get? (oa i) = some { cls := .type "list", data := .seq (us ++ [v]).toArray c₂ } := by
          rw [Heap.get?_update_self _ hg' (by rw [eo]; rfl), eo]
        have hs' := Heap.SameBut.update s₁.heap (oa i) (Obj.mapSeq fun xs => xs.push v)
        refine .mk (tr_trans hs ⟨_, rfl⟩) (Ext.trans x₁.ofE (sameBut_ext hs' (f.ox i l e') ⟨_, gg⟩)) (I₁.sameBut hs' o1 o2) (oa' := oa) (vars' := vars.set i (some (.own (l ++ [y])))) ?_ .nx q
        exact own_set g₁ e' (.refl _) (fun _ _ => rfl) (fun _ => o1) hs' ⟨_, gg⟩ ⟨rfl, us ++ [v], ⟨c₂, gg⟩, hr'.append (.cons r₁ .nil)⟩
      | _ => exact q.elim
    | _ => rw [e] at w; exact w.elim
end
end Mn
end
section
namespace Mn
section
variable {Γ : Wd} {n : Nat} {env : Env} {ns : List String}
theorem Ext.tailBut {X : Addr → Prop} {F F' : Fz} {α α' : List SA} {h h' h'' : Heap} {a : Addr} (x : Ext X F α h F' α' h') (ha : h.get? a = none) (k : ∀ b o, b ∉ [a] → h'.get? b = some o → h''.get? b = some o) : Ext X F α h F' α' h'' := by
  have ne : ∀ b o, h.get? b = some o → b ∉ [a] := fun b o e c => by rw [List.mem_singleton] at c; subst c; rw [ha] at e; cases e
  exact ⟨x.sub, x.pre, fun b o e hm hb => let ⟨e1, e2⟩ := x.keep b o e hm hb; ⟨k b o (ne b o e) e1, e2⟩, fun b o e => let ⟨o', e'⟩ := x.stay b o e; ⟨o', k b o' (ne b o e) e'⟩⟩
theorem Frm.but {F : Fz} {α : List SA} {vars : Vars} {oa : Nat → Addr} {h h' : Heap} {a : Addr} (f : Frm F α env ns vars oa h) (k : ∀ b o, b ∉ [a] → h.get? b = some o → h'.get? b = some o) (h1 : a ∉ fpOf env) (h2 : ∀ (i : Nat) (l : List D), vars[i]? = some (some (.own l)) → a ≠ oa i) : Frm F α env ns vars oa h' := by
  have kp : ∀ b ∈ fpOf env, ∀ o, h.get? b = some o → h'.get? b = some o := fun b hb o e => k b o (fun c => h1 (List.mem_singleton.mp c ▸ hb)) e
  refine ⟨?_, f.len, fun i y av hy hv => ?_, fun b hb => ?_, f.own, f.oinj, fun c hc => ?_⟩
  · obtain ⟨m, o, es, ep, ho, r⟩ := f.hn
    exact ⟨m, o, es, ep, kp _ (fp_locals env) _ ho, r⟩
  · obtain ⟨v, hn, hr⟩ := f.at_ i y av hy hv
    refine ⟨v, hn.at kp, ?_⟩
    cases av with
    | d y => exact hr
    | ob n => exact hr
    | own l =>
      obtain ⟨e, vs, ⟨o, ho⟩, q⟩ := hr
      exact ⟨e, vs, ⟨o, k _ _ (fun c => h2 i l hv (List.mem_singleton.mp c).symm) ho⟩, q⟩
  · obtain ⟨p1, p2, o, p3⟩ := f.fp b hb
    exact ⟨p1, p2, o, kp b hb o p3⟩
  · obtain ⟨v, o, ho, hd⟩ := f.cells c hc
    exact ⟨v, o, kp c (List.mem_cons_of_mem _ hc) _ ho, hd⟩
abbrev ForI (Γ : Wd) (n : Nat) (env : Env) (ns : List String) (t : Tg) (b : Ss) (X : Addr → Prop) (s₀ : Shared) (F₀ F : Fz) (α₀ : List SA) (it : Addr) (St : Nat → Heap → Prop) (l : List D) (Q : Fl → Vars → List AO → Prop) (k : Nat) (s' : Shared) : Prop :=
  ∃ F' α' st' vars' oa' i, (∃ tk, s' = { s₀ with heap := s'.heap, toks := tk }) ∧ Ext X F₀ α₀ s₀.heap F' α' s'.heap ∧ F.Sub F' ∧ Inv Γ F' α' st' s'.heap ∧ FrS (fun a => X a ∧ a ≠ it) F' α' env ns vars' oa' s'.heap ∧
      (F' it = none ∧ it ∉ sAddrs α') ∧ St i s'.heap ∧ i ≤ l.length ∧ k = l.length - i ∧
      loopF t (fun vs st Q => wpSs Γ.P (CallOK Γ n) (NewOK Γ n) b vs st Q) (l.drop i) vars' st' Q
theorem for_loop (SO : StOK env ns) (EK : EOK env ns) {t : Tg} {b : Ss} (hb : SemSs Γ n env ns (toSs Γ.P ns b) (wSs Γ n b)) {X : Addr → Prop} {A : Around} {s₀ s : Shared} {F₀ F : Fz} {α₀ α : List SA} {st : List AO} {vars : Vars} {oa : Nat → Addr} {Q : Fl → Vars → List AO → Prop} (R : Room A n) (I : Inv Γ F α st s.heap)
    {it : Addr} {l : List D} {fp : List Addr} {Pv : Nat → Value → Prop} {St : Nat → Heap → Prop} (W : ItW Γ A F it l fp Pv St) (hit : F it = none ∧ it ∉ sAddrs α) (hX : X it) (h0 : St 0 s.heap)
    (hs₀ : ∃ tk, s = { s₀ with heap := s.heap, toks := tk }) (x₀ : Ext X F₀ α₀ s₀.heap F α s.heap) (hit0 : s₀.heap.get? it = none)
    (f : FrS (fun a => X a ∧ a ≠ it) F α env ns vars oa s.heap) (w : loopF t (fun vs st Q => wpSs Γ.P (CallOK Γ n) (NewOK Γ n) b vs st Q) l vars st Q) :
    codeAny (model Γ.prog Γ.w) A (.forLoop (toT ns t) (.ref it) (toSs Γ.P ns b) [] env) (fun r s' => match r with | .ok f => PostS Γ X F₀ α₀ env ns s₀ Q f s' | .error e => cameBackBy (model Γ.prog Γ.w) A env NE e s') s := by
  have back : ∀ {F' α' vars' oa' h'}, FrS (fun a => X a ∧ a ≠ it) F' α' env ns vars' oa' h' → FrS X F' α' env ns vars' oa' h' := fun f => ⟨f.frm, fun a ha => (f.fx a ha).1, fun i l e => (f.ox i l e).1, fun a e => (f.fr a e).1⟩
  refine codeAny_forLoop_any (ForI Γ n env ns t b X s₀ F₀ F α₀ it St l Q) ?_ l.length ⟨F, α, st, vars, oa, 0, hs₀, x₀, .refl _, I, f, hit, h0, Nat.zero_le _, rfl, w⟩
  rintro k s₁ ⟨F₁, α₁, st₁, vars₁, oa₁, i, hs₁, x₁, S₁, I₁, f₁, ⟨t1, t2⟩, hst, hi, rfl, w₁⟩
  have n1 : it ∉ fpOf env := fun c => (f₁.fx it c).2 rfl
  have n2 : ∀ (j : Nat) (m : List D), vars₁[j]? = some (some (.own m)) → it ≠ oa₁ j := fun j m e c => (f₁.ox j m e).2 c.symm
  have inv : ∀ {h' : Heap}, (∀ b o, b ∉ [it] → s₁.heap.get? b = some o → h'.get? b = some o) → Inv Γ F₁ α₁ st₁ h' := fun {h'} kk =>
    I₁.other (fun a o e => kk a o (fun c => by rw [List.mem_singleton] at c; subst c; rw [t1] at e; cases e) (I₁.agree a o e)) (fun a ha o e => kk a o (fun c => by rw [List.mem_singleton] at c; subst c; exact t2 ha) e)
  by_cases hlt : i < l.length
  · refine W.wk.item i s₁ _ _ hlt hst fun v h' tk pv hst' kk => ?_
    have hlive := W.lv _ _ hst'
    have fr' : FrS (fun a => X a ∧ a ≠ it) F₁ α₁ env ns vars₁ oa₁ h' := ⟨f₁.frm.but kk n1 n2, f₁.fx, f₁.ox, fun a e => f₁.fr a (by
      cases e' : s₁.heap.get? a with
      | none => rfl
      | some o =>
        by_cases c : a = it
        · subst c; obtain ⟨o', h2⟩ := hlive; rw [e] at h2; cases h2
        · rw [kk a o (fun c' => c (List.mem_singleton.mp c')) e'] at e; cases e)⟩
    have I' := inv kk
    have x' := x₁.tailBut hit0 kk
    obtain ⟨d, hd, hr⟩ := W.val i v pv
    have hdrop : l.drop i = d :: l.drop (i + 1) := by
      rw [List.drop_eq_getElem_cons hlt]
      rw [List.getElem?_eq_getElem hlt] at hd
      cases hd; rfl
    rw [hdrop] at w₁
    replace w₁ : (match setT t (.d d) vars₁ with | some vs => wpSs Γ.P (CallOK Γ n) (NewOK Γ n) b vs st₁ fun fl vs st => (match fl with | .nx => loopF t (fun vs st Q => wpSs Γ.P (CallOK Γ n) (NewOK Γ n) b vs st Q) (l.drop (i + 1)) vs st Q | .ct => loopF t (fun vs st Q => wpSs Γ.P (CallOK Γ n) (NewOK Γ n) b vs st Q) (l.drop (i + 1)) vs st Q | .bk => Q .nx vs st | .rt v => Q (.rt v) vs st) | none => False) := w₁
    cases e : setT t (.d d) vars₁ with
    | none => rw [e] at w₁; exact w₁.elim
    | some vars₂ =>
      rw [e] at w₁
      have main : wpAny (model Γ.prog Γ.w) A (assign (toT ns t) env v) (fun _ s₂ => wpAny (model Γ.prog Γ.w) A (execs (toSs Γ.P ns b) env) (fun f s₃ => match f with
            | .next | .cont => ∃ m, m < l.length - i ∧ ForI Γ n env ns t b X s₀ F₀ F α₀ it St l Q m s₃
            | .brk => PostS Γ X F₀ α₀ env ns s₀ Q .next s₃
            | .ret v => PostS Γ X F₀ α₀ env ns s₀ Q (.ret v) s₃) NE s₂) NE { s₁ with heap := h', toks := tk } := by
        refine assign_T SO EK R.1 (s := { s₁ with heap := h', toks := tk }) (av := .d d) I' fr' (DR.mono S₁ hr) e fun h₂ tk₂ I₂ x₂ f₂ k₂ => ?_
        refine wpAny_mono (hb (fun a => X a ∧ a ≠ it) A { s₁ with heap := h₂, toks := tk₂ } F₁ α₁ st₁ vars₂ oa₁ _ R I₂ f₂ w₁) (fun fl s₃ p => ?_) fun _ _ e => e
        obtain ⟨F₃, α₃, st₃, vars₃, oa₃, g, hs₃, x₃, I₃, f₃, r, q⟩ := p
        have hs : ∃ tk, s₃ = { s₀ with heap := s₃.heap, toks := tk } := tr_trans hs₁ (tr_trans (s₁ := { s₁ with heap := h₂, toks := tk₂ }) ⟨tk₂, rfl⟩ hs₃)
        have x23 := x₂.trans x₃
        have xx : Ext X F₀ α₀ s₀.heap F₃ α₃ s₃.heap := x'.trans (x23.weak fun a o _ ha => ha.1)
        obtain ⟨oi, hoi⟩ := hlive
        have kit := x23.keep it oi hoi t2 (fun c => c.2 rfl)
        have t3 : F₃ it = none ∧ it ∉ sAddrs α₃ := by
          obtain ⟨β, rfl, hβ⟩ := x23.pre
          exact ⟨kit.2.trans t1, not_mem_ext hoi t2 hβ⟩
        have st3 : St (i + 1) s₃.heap := by
          refine W.wk.frame (i + 1) h' s₃.heap hst' fun b hbf o eo => ?_
          rcases W.fp b hbf with rfl | ⟨o', e'⟩
          · rw [hoi] at eo; cases eo; exact kit.1
          · have e1 := S₁ _ _ e'
            have e2 := I'.agree _ _ e1
            rw [eo] at e2
            cases e2
            exact I₃.agree _ _ (x23.sub _ _ e1)
        have go : ∀ (_ : loopF t (fun vs st Q => wpSs Γ.P (CallOK Γ n) (NewOK Γ n) b vs st Q) (l.drop (i + 1)) vars₃ st₃ Q), ∃ m, m < l.length - i ∧ ForI Γ n env ns t b X s₀ F₀ F α₀ it St l Q m s₃ := fun q =>
          ⟨l.length - (i + 1), by omega, F₃, α₃, st₃, vars₃, oa₃, i + 1, hs, xx, S₁.trans x23.sub, I₃, f₃, t3, st3, hlt, rfl, q⟩
        cases r with
        | nx => exact go q
        | ct => exact go q
        | bk => exact .mk hs xx I₃ (back f₃) .nx q
        | rt r => exact .mk hs xx I₃ (back f₃) (.rt r) q
      cases t with
      | nm j p => exact wpAny_pure (wpAny_mono main (fun _ s₂ h => wpAny_mono h (fun fl s₃ p => by cases fl <;> exact p) fun _ _ e => e.elim) fun _ _ e => e.elim)
      | tp is j p =>
        cases d with
        | tup y => exact W.go (i + 1) { s₁ with heap := h', toks := tk } y v _ _ _ _ _ hst' ⟨i, hd⟩ (wpAny_mono main (fun _ s₂ h => wpAny_mono h (fun fl s₃ p => by cases fl <;> exact p) fun _ _ e => e.elim) fun _ _ e => e.elim)
        | _ => cases e
  · have hi' : i = l.length := by omega
    subst hi'
    refine W.wk.done s₁ _ _ hst fun h' tk kk => ?_
    rw [List.drop_length] at w₁
    refine wpAny_execs_nil ?_
    refine .mk (tr_trans hs₁ ⟨tk, rfl⟩) (x₁.tailBut hit0 kk) (inv kk) (vars' := vars₁) (oa' := oa₁) ⟨f₁.frm.but kk n1 n2, fun a ha => (f₁.fx a ha).1, fun j m e => (f₁.ox j m e).1, fun a e => ?_⟩ .nx w₁
    by_cases c : a = it
    · rw [c]; exact hX
    · refine (f₁.fr a ?_).1
      cases e' : s₁.heap.get? a with
      | none => rfl
      | some o => rw [kk a o (fun c' => c (List.mem_singleton.mp c')) e'] at e; cases e
end
end Mn
end
section
namespace Mn
section
variable {Γ : Wd} {n : Nat} {env : Env} {ns : List String}
theorem st_for (W : WdOK Γ) (SO : StOK env ns) (EK : EOK env ns) {t : Tg} {k : IK} {x : X} {b : Ss} {p : Pos} (hx : SemX Γ n env ns x) (hk : kOK env k) (hb : SemSs Γ n env ns (toSs Γ.P ns b) (wSs Γ n b)) : SemS Γ n env ns (toS Γ.P ns (.for_ t k x b p)) (wS Γ n (.for_ t k x b p)) := by
  refine .one fun X A s F α st vars oa Q R I f w => ?_
  refine wpAny_For ?_ (by intro y; cases k <;> first | rfl | (cases x <;> rfl))
  refine wpAny_mono (iter_start W EK hx hk R I f.frm (Q := fun l st => loopF t (fun vs st Q => wpSs Γ.P (CallOK Γ n) (NewOK Γ n) b vs st Q) l vars st Q) w) (fun xv s₁ h => wpAny_mono h (fun itv s₂ h => ?_) fun _ _ e => e) fun _ _ e => e
  obtain ⟨it, F', α', st', l, fp, Pv, St, rfl, hs, x', I', h1, h2, h3, Wi, h0, q⟩ := h
  have f' := f.step x'
  refine for_loop SO EK hb R I' Wi ⟨h2, h3⟩ (f.fr it h1) h0 hs x'.ofE h1 ⟨f'.frm, fun a ha => ⟨f'.fx a ha, fun c => ?_⟩, fun i m e => ⟨f'.ox i m e, fun c => ?_⟩, fun a e => ⟨f'.fr a e, fun c => ?_⟩⟩ q
  · obtain ⟨_, _, o, e⟩ := f.frm.fp a ha
    rw [c, h1] at e; cases e
  · obtain ⟨_, _, _, vs, ⟨j, hj⟩, _⟩ := own_lt f.frm e
    rw [c, h1] at hj; cases hj
  · obtain ⟨o, ho⟩ := Wi.lv _ _ h0
    rw [← c, e] at ho; cases ho
end
end Mn
end
section
namespace Mn
section
variable (P : Pg) (g : Sg)
mutual
noncomputable def okS : S → Bool
  | .asg t x _ => tgOK t x && notC x && okY P g x
  | .asgA a f x _ _ => decide (f < P.flds.length) && notC x && okY P g a && okY P g x
  | .asgI a k x _ _ => notC x && okY P g a && okY P g k && okY P g x
  | .delI a k _ _ => okY P g a && okY P g k
  | .exp x _ => notC x && okY P g x
  | .iff t a b _ => okY P g t && okSs a && okSs b
  | .whl t b _ => okY P g t && okSs b
  | .for_ _ k x b _ => (match k with | .over => true | .range .. => g.g (Str.ofString "range") | .rev .. => g.g (Str.ofString "reversed")) && okY P g x && okSs b
  | .ret x _ => okY P g x
  | .ownA _ x _ ap pc _ => (ap.endLine == pc.line) && okY P g x
  | .pas _ => true
  | .brk _ => true
  | .con _ => true
  | .ownN _ as _ _ _ => okYs P g as
  | .frz _ => true
  | .bad _ => true
noncomputable def okSs : Ss → Bool
  | .nil => true
  | .cons s r => okS s && okSs r
end
end
section
variable {Γ : Wd} {n : Nat} {env : Env} {ns : List String} (W : WdOK Γ) (SO : StOK env ns) (EK : EOK env ns) (g : Sg) (hg : GOK g env ns)
include W SO EK hg
mutual
theorem semS : ∀ x : S, okS Γ.P g x = true → SemS Γ n env ns (toS Γ.P ns x) (wS Γ n x)
  | .asg t x _, h => st_asg SO EK (semX W EK g hg x (and2 h).2) (and2 (and2 h).1).2 (and2 (and2 h).1).1
  | .asgA a f x _ _, h => st_asgA W (semX W EK g hg a (and2 (and2 h).1).2) (semX W EK g hg x (and2 h).2) (and2 (and2 (and2 h).1).1).2 (of_decide_eq_true (and2 (and2 (and2 h).1).1).1)
  | .asgI a k x _ _, h => st_asgI (and2 (and2 (and2 h).1).1).1 (semX W EK g hg a (and2 (and2 (and2 h).1).1).2) (semX W EK g hg k (and2 (and2 h).1).2) (semX W EK g hg x (and2 h).2)
  | .delI a k _ _, h => st_delI (semX W EK g hg a (and2 h).1) (semX W EK g hg k (and2 h).2)
  | .exp x _, h => st_exp EK (and2 h).1 (semX W EK g hg x (and2 h).2)
  | .iff t a b _, h => st_iff (semX W EK g hg t (and2 (and2 h).1).1) (semSs a (and2 (and2 h).1).2) (semSs b (and2 h).2)
  | .whl t b _, h => st_whl (semX W EK g hg t (and2 h).1) (semSs b (and2 h).2)
  | .for_ t k x b _, h => st_for W SO EK (semX W EK g hg x (and2 (and2 h).1).2) (match k, (and2 (and2 h).1).1 with | .over, _ => trivial | .range .., h => hg.k h | .rev .., h => hg.k h) (semSs b (and2 h).2)
  | .ret x _, h => st_ret (semX W EK g hg x h)
  | .ownA _ x _ ap pc _, h => st_ownA EK (semX W EK g hg x (and2 h).2) (and2 h).1
  | .pas _, _ => st_pas
  | .brk _, _ => st_brk
  | .con _, _ => st_con
  | .ownN _ as _ _ _, h => st_ownN SO EK (semXs W EK g hg as h)
  | .frz _, _ => st_frz
  | .bad _, _ => fun X A s F α st vars oa Q R I f w => w.elim
theorem semSs : ∀ xs : Ss, okSs Γ.P g xs = true → SemSs Γ n env ns (toSs Γ.P ns xs) (wSs Γ n xs)
  | .nil, _ => ss_nil
  | .cons x r, h => ss_cons (semS x (and2 h).1) (semSs r (and2 h).2)
end
end
noncomputable def gOf (ns : List String) (sc : Scope) : Sg := ⟨ns, sc.names⟩
noncomputable def argVars (fi : FnI) (vs : List AV) : Vars := (vs ++ (fi.defs.drop (vs.length + fi.defs.length - fi.npar)).map AV.d).map some ++ List.replicate (fi.ns.length - fi.npar) none
noncomputable def retQ (Q : AV → List AO → Prop) : Fl → Vars → List AO → Prop
  | .rt v, _, st => Q v st
  | .nx, _, st => Q (.d .non) st
  | _, _, _ => False
section
variable {Γ : Wd}
theorem vrs_get {F : Fz} {α : List SA} {l : List AV} {vs : List Value} (h : VRs F α l vs) : ∀ (i : Nat) (av : AV), l[i]? = some av → ∃ v, vs[i]? = some v ∧ VR F α av v := by
  induction h with
  | nil => intro i av h; cases h
  | cons a b ih =>
    intro i av h
    cases i with
    | zero => cases h; exact ⟨_, rfl, a⟩
    | succ i => exact ih i av h
theorem vrs_append {F : Fz} {α : List SA} {l l' : List AV} {vs vs' : List Value} (h : VRs F α l vs) (h' : VRs F α l' vs') : VRs F α (l ++ l') (vs ++ vs') := by
  induction h with
  | nil => exact h'
  | cons a b ih => exact .cons a ih
theorem vrs_ds {F : Fz} {α : List SA} {l : List D} : ∀ {vs : List Value}, DRs F l vs → VRs F α (l.map .d) vs := by
  induction l with
  | nil => intro vs h; cases h; exact .nil
  | cons x l ih => intro vs h; cases h with | cons a b => exact .cons a (ih b)
theorem cells_keys (names : List (Str × NameKind)) : ∀ (n : Nat) (acc : List (Str × Addr)), (cellsFrom n names acc).map (·.1) = ((names.filter fun x => x.2 == .cell).map (·.1)).reverse ++ acc.map (·.1) := by
  induction names with
  | nil => intro n acc; rfl
  | cons p r ih =>
    intro n acc
    obtain ⟨x, k⟩ := p
    have e : List.filter (fun x => x.2 == NameKind.cell) ((x, k) :: r) = if (k == NameKind.cell) = true then (x, k) :: List.filter (fun x => x.2 == NameKind.cell) r else List.filter (fun x => x.2 == NameKind.cell) r := List.filter_cons
    unfold cellsFrom
    rw [e]
    by_cases h : (k == NameKind.cell) = true
    · rw [if_pos h, if_pos h, ih, List.map_cons, List.map_cons, List.reverse_cons, List.append_assoc]; rfl
    · rw [if_neg h, if_neg h]; exact ih n acc
theorem lookup_mem {l : List (Str × Addr)} (hn : (l.map (·.1)).Nodup) {x : Str} {c : Addr} (h : (x, c) ∈ l) : l.lookup x = some c := by
  induction l with
  | nil => cases h
  | cons p r ih =>
    obtain ⟨y, d⟩ := p
    obtain ⟨h1, h2⟩ := List.nodup_cons.mp hn
    rw [List.lookup_cons]
    rcases List.mem_cons.mp h with e | h
    · cases e; rw [beq_self_eq_true]
    · rw [show (x == y) = false from beq_eq_false_iff_ne.mpr fun e => h1 (e ▸ List.mem_map.mpr ⟨_, h, rfl⟩)]
      exact ih h2 h
theorem cells_some {names : List (Str × NameKind)} {x : Str} (h : names.lookup x = some .cell) (n : Nat) : ((cellsFrom n names []).lookup x).isSome = true := by
  cases e : (cellsFrom n names []).lookup x with
  | some c => rfl
  | none =>
    have m : x ∈ (cellsFrom n names []).map (·.1) := by
      rw [cells_keys, List.map_nil, List.append_nil, List.mem_reverse]
      exact List.mem_map.mpr ⟨(x, .cell), List.mem_filter.mpr ⟨mem_of_lookup h, rfl⟩, rfl⟩
    obtain ⟨p, hp, rfl⟩ := List.mem_map.mp m
    have := List.lookup_eq_none_iff.mp e p hp
    simp at this
theorem bindL_no {kd : Str → Option NameKind} {x : Str} : ∀ {l : List (Str × Value)} {m : Str → Option Value}, (∀ p ∈ l, p.1 ≠ x) → bindL kd l m x = m x ∧ bindC kd l m x = m x
  | [], _, _ => ⟨rfl, rfl⟩
  | (y, u) :: r, m, h => by
    have hy : ¬ x = y := fun e => h _ List.mem_cons_self e.symm
    have ih := fun m => bindL_no (kd := kd) (l := r) (m := m) fun p hp => h p (List.mem_cons_of_mem _ hp)
    refine ⟨(ih _).1.trans ?_, (ih _).2.trans ?_⟩
    · show (if kd y = some .local then fun z => if z = y then some u else m z else m) x = m x
      split
      · exact if_neg hy
      · rfl
    · show (if kd y = some .local then m else fun z => if z = y then some u else m z) x = m x
      split
      · rfl
      · exact if_neg hy
theorem bind_get {kd : Str → Option NameKind} {ns : List Str} (hn : ns.Nodup) : ∀ {vs : List Value} {i : Nat} {x : Str} {v : Value} {m : Str → Option Value}, ns[i]? = some x → vs[i]? = some v → (kd x = some .local → bindL kd (ns.zip vs) m x = some v) ∧ (kd x = some .cell → bindC kd (ns.zip vs) m x = some v) := by
  induction ns with
  | nil => intro vs i x v m h; cases h
  | cons y r ih =>
    intro vs i x v m hx hv
    cases vs with
    | nil => cases hv
    | cons u us =>
      obtain ⟨h1, h2⟩ := List.nodup_cons.mp hn
      cases i with
      | zero =>
        cases hx; cases hv
        have no : ∀ p ∈ r.zip us, p.1 ≠ y := fun p hp e => h1 (e ▸ (List.of_mem_zip hp).1)
        refine ⟨fun k => (bindL_no no).1.trans ?_, fun k => (bindL_no no).2.trans ?_⟩
        · rw [if_pos k]; exact if_pos rfl
        · rw [if_neg (by rw [k]; exact fun e => nomatch e)]; exact if_pos rfl
      | succ i => exact ⟨(ih h2 hx hv).1, (ih h2 hx hv).2⟩
theorem call_ok (W : WdOK Γ) {f : Nat} {fi : FnI} (hfi : Γ.P.fns[f]? = some fi) {body : Ss} (hb : fi.body = toSs Γ.P fi.ns body) (hok : okSs Γ.P (gOf fi.ns fi.scope) body = true) {n : Nat} {vs : List AV} {st : List AO} {Q : AV → List AO → Prop}
    (h1 : vs.length ≤ fi.npar) (h2 : fi.npar ≤ vs.length + fi.defs.length)
    (w : wpSs Γ.P (CallOK Γ n) (NewOK Γ n) body (argVars fi vs) st (retQ Q)) : CallOK Γ (n + 1) f vs st Q := by
  refine ⟨fi, hfi, fun A s F α us R I r => ?_⟩
  have FO := W.fn f fi hfi
  obtain ⟨o, fd, ho, hd, hsc, hbd, hgl, hcl, hbt, hcr, hbind⟩ := FO.def_
  have hlen := r.length
  obtain ⟨dv, hdv, bt⟩ := hbind s us I.bkeep (by rw [← hlen]; exact h1) (by rw [← hlen]; exact h2)
  have hroom : A.depth < recursionLimit := by have := R.2.1; exact lin this
  have hcode : s.heap.CodeRec fd.code fd.qualname := by
    obtain ⟨c, oc, vs', tq, hc, hoc, hdc, hq⟩ := hcr
    exact ⟨c, oc, vs', tq, hc, I.bkeep _ _ hoc, hdc, hq⟩
  have hlim : s.heap.NoLimit := by
    obtain ⟨m, hl, rr⟩ := W.lim
    exact ⟨m, ns_here I hl, rr⟩
  refine codeAny_call_function hroom (I.bkeep _ _ ho) hd (by rw [hsc]; exact FO.co) (by rw [hsc]; exact FO.gen) (by rw [hbd]) hcode (bt _ _ _ _ ?_)
  rw [hcl, hsc]
  have hall : VRs F α (vs ++ (fi.defs.drop (vs.length + fi.defs.length - fi.npar)).map AV.d) (us ++ dv) := by
    refine vrs_append r (vrs_ds ?_)
    rw [hlen]
    exact hdv.mono fun a o e => I.base a o e
  have hcount : (us ++ dv).length = fi.npar := by
    rw [← hall.length, List.length_append, List.length_map, List.length_drop]
    omega
  have hnd : ((fi.ns.take fi.npar).map Str.ofString).Nodup := by
    rw [List.map_take]; exact FO.nd.sublist (List.take_sublist _ _)
  have fits : ∀ x ∈ ((fi.ns.take fi.npar).map Str.ofString).zip (us ++ dv), fi.scope.names.lookup x.1 = some .local ∨ (fi.scope.names.lookup x.1 = some .cell ∧ ((cellsFrom (s.heap.objs.size + 1) fi.scope.names []).lookup x.1).isSome = true) := fun x hx => by
    obtain ⟨y, hy, e⟩ := List.mem_map.mp (List.of_mem_zip hx).1
    rw [← e]
    exact (FO.par y (List.mem_of_mem_take hy)).imp id fun h => ⟨h, cells_some h _⟩
  refine wpAny_newFunctionEnv_cells FO.kind fits fun env henv s₁ X => ⟨hlim.keeps X.toInCall.keep, codeAny_func ?_⟩
  · obtain ⟨⟨h₁, tk₁, hs₁⟩, hns, kk, hfr⟩ := X.toInCall
    have e1 : env.scope = fi.scope := by rw [henv]; rfl
    have e2 : env.locals = s.heap.objs.size := by rw [henv]; rfl
    have e3 : env.globals = mainGlobals := by rw [henv]; exact hgl
    have e4 : env.builtins = builtinsNs := by rw [henv]; exact hbt
    have e5 : env.cells = cellsFrom (s.heap.objs.size + 1) fi.scope.names [] := by rw [henv]; rfl
    have ndc : (env.cells.map (·.1)).Nodup := by
      rw [e5, cells_keys, List.map_nil, List.append_nil]
      exact (List.reverse_perm _).nodup_iff.mpr FO.cel
    have cell : ∀ p ∈ env.cells, (∃ v, s₁.heap.IsCell p.2 v) ∧ s.heap.objs.size < p.2 := fun p hp => ⟨⟨_, X.cell p.1 p.2 (lookup_mem ndc hp)⟩, e2 ▸ X.above p.1 p.2 hp⟩
    have EK : EOK env fi.ns := ⟨by rw [e1]; exact FO.kind, e3, e4, FO.nd, FO.dbg, by
      refine List.nodup_cons.mpr ⟨fun c => ?_, List.pairwise_map.mpr X.apart⟩
      obtain ⟨p, hp, e⟩ := List.mem_map.mp c
      have := (cell p hp).2
      rw [e, e2] at this
      exact Nat.lt_irrefl _ this, by unfold interactive; rw [e1, FO.kind]; rfl⟩
    have kindOf : ∀ x, env.kindOf x = fi.scope.names.lookup x := fun x => by unfold Env.kindOf; rw [e1]
    have SO : StOK env fi.ns := fun x hx => (FO.par x hx).imp (fun h => by rw [kindOf]; exact h) fun h => ⟨by rw [kindOf]; exact h, by rw [e5]; exact cells_some h _⟩
    have hg : GOK (gOf fi.ns fi.scope) env fi.ns := ⟨rfl, fun x k hx => by rw [kindOf]; exact hx⟩
    have hn := none_new (h := s.heap) rfl
    have I₀ : Inv Γ F α st s₁.heap := I.keeps kk
    have live : ∀ a ∈ fpOf env, s.heap.get? a = none ∧ ∃ o, s₁.heap.get? a = some o := fun a ha => by
      rcases List.mem_cons.mp ha with rfl | ha
      · obtain ⟨o, _, _, ho', _⟩ := hns
        exact ⟨by rw [e2]; exact hn, o, ho'⟩
      · obtain ⟨p, hp, rfl⟩ := List.mem_map.mp ha
        obtain ⟨⟨v, o, ho, _⟩, hl⟩ := cell p hp
        exact ⟨get_size _ (Nat.le_of_lt hl), o, ho⟩
    have f₀ : FrS (fun a => s.heap.get? a = none) F α env fi.ns (argVars fi vs) (fun _ => 0) s₁.heap := by
      have la : (argVars fi vs).length = fi.ns.length := by
        unfold argVars
        rw [List.length_append, List.length_map, hall.length, hcount, List.length_replicate]
        have := FO.np
        omega
      have noown : ∀ (i : Nat) (l : List D), (argVars fi vs)[i]? ≠ some (some (.own l)) := fun i l c => by
        unfold argVars at c
        by_cases hi : i < (vs ++ (fi.defs.drop (vs.length + fi.defs.length - fi.npar)).map AV.d).length
        · rw [List.getElem?_append_left (by rw [List.length_map]; exact hi), List.getElem?_map] at c
          obtain ⟨av, hav, e⟩ := Option.map_eq_some_iff.mp c
          cases e
          obtain ⟨v, _, hv⟩ := vrs_get hall i _ hav
          exact hv
        · rw [List.getElem?_append_right (by rw [List.length_map]; exact lin (Nat.le_of_not_lt hi))] at c
          obtain ⟨_, e⟩ := List.getElem?_eq_some_iff.mp c
          rw [List.getElem_replicate] at e
          cases e
      refine ⟨⟨⟨_, hns⟩, la, fun i x av hx hv => ?_, fun a ha => ?_, fun i l e => (noown i l e).elim, fun i j l m e => (noown i l e).elim, fun c hc => ?_⟩, fun a ha => (live a ha).1, fun i l e => (noown i l e).elim, fun a e => ?_⟩
      · unfold argVars at hv
        by_cases hi : i < (vs ++ (fi.defs.drop (vs.length + fi.defs.length - fi.npar)).map AV.d).length
        · rw [List.getElem?_append_left (by rw [List.length_map]; exact hi), List.getElem?_map] at hv
          obtain ⟨av', hav, e⟩ := Option.map_eq_some_iff.mp hv
          cases e
          obtain ⟨v, hv', hvr⟩ := vrs_get hall i _ hav
          have hi' : i < fi.npar := by rw [hall.length, hcount] at hi; exact hi
          have hb := bind_get (kd := env.kindOf) hnd (i := i) (x := Str.ofString x) (m := fun _ => none) (by rw [List.getElem?_map, List.getElem?_take_of_lt hi', hx]; rfl) hv'
          refine ⟨v, ?_, ?_⟩
          · rcases FO.par x (List.mem_of_getElem? hx) with h | h
            · exact .inl ⟨by rw [kindOf]; exact h, _, hns, hb.1 (by rw [kindOf]; exact h)⟩
            · obtain ⟨c, hc⟩ := Option.isSome_iff_exists.mp (cells_some h (s.heap.objs.size + 1))
              rw [← e5] at hc
              refine .inr ⟨.inl (by rw [kindOf]; exact h), c, hc, ?_⟩
              rw [← hb.2 (by rw [kindOf]; exact h)]
              exact X.cell _ c hc
          · cases av with
            | own l => exact hvr.elim
            | d y => exact hvr
            | ob k => exact hvr
        · rw [List.getElem?_append_right (by rw [List.length_map]; exact lin (Nat.le_of_not_lt hi))] at hv
          obtain ⟨_, e⟩ := List.getElem?_eq_some_iff.mp hv
          rw [List.getElem_replicate] at e
          cases e
      · obtain ⟨h1, o, h2⟩ := live a ha
        exact ⟨I.fnone h1, I.anone h1, o, h2⟩
      · obtain ⟨p, hp, rfl⟩ := List.mem_map.mp hc
        exact (cell p hp).1
      · cases e' : s.heap.get? a with
        | none => rfl
        | some o => rw [kk a o e'] at e; cases e
    have R' : Room (A.deeper env) n := by
      refine ⟨R.1, ?_, ?_⟩
      · have := R.2.1
        show A.depth + 1 + n ≤ _
        exact lin this
      · have := R.2.2
        show A.units + 3 + 8 * n + 40 ≤ _
        exact lin this
    rw [hb]
    refine wpAny_mono (semSs W SO EK (gOf fi.ns fi.scope) hg body hok (fun a => s.heap.get? a = none) (A.deeper env) _ F α st (argVars fi vs) (fun _ => 0) (retQ Q) R' I₀ f₀ w) (fun fl s' p => ?_) fun _ _ e => e.elim
    obtain ⟨F', α', st', vars', oa', g, hs', x, I', f', rr, q⟩ := p
    obtain ⟨tk, hs'⟩ := tr_trans (s := s) (s₁ := s₁) ⟨tk₁, by rw [hs₁]⟩ hs'
    have xx : ExtE F α s.heap F' α' s'.heap := (ext_keeps F α kk).transX x fun a o e hx => by rw [hx] at e; cases e
    cases rr with
    | nx => exact ⟨F', α', st', _, tk, by rw [hs'], xx, I', .d_non, q⟩
    | rt r => exact ⟨F', α', st', _, tk, by rw [hs'], xx, I', r, q⟩
    | bk => exact q.elim
    | ct => exact q.elim
theorem new_ok (W : WdOK Γ) {c f : Nat} {C : Addr} (hC : Γ.P.clss[c]? = some C) (hf : Γ.P.inits[c]? = some f) {n : Nat} {vs : List AV} {st : List AO} {Q : AV → List AO → Prop}
    (w : CallOK Γ n f (.ob st.length :: vs) (st ++ [.ins c []]) fun v st' => v = .d .non ∧ Q (.ob st.length) st') : NewOK Γ (n + 1) c vs st Q := by
  refine ⟨C, hC, fun A s F α us R I r => ?_⟩
  have CO := W.cl c C hC
  obtain ⟨f', fi, hf', hfi, hin, hty⟩ := CO.ini
  rw [hf] at hf'; cases hf'
  obtain ⟨fi', hfi', w⟩ := w
  rw [hfi] at hfi'; cases hfi'
  have X := kin_here W I
  obtain ⟨h, g, d, t, os⟩ := s
  refine make_core (makes_of X CO.mks) (looks_findIn X hin) (fun self => bind_fn X self hty) (.inl rfl) ?_
  have hn0 : h.get? h.objs.size = none := none_new rfl
  have hn1 : h.get? (h.objs.size + 1) = none := get_size h (lin (Nat.le_refl 0))
  have g0 : ((h.push emptyDict).push (instObj C h.objs.size)).get? h.objs.size = some emptyDict := Heap.get?_push_of_some _ (Heap.get?_push_size _ rfl)
  have g1 : ((h.push emptyDict).push (instObj C h.objs.size)).get? (h.objs.size + 1) = some (instObj C h.objs.size) := by
    rw [← Heap.size_push (h := h) (o := emptyDict)]
    exact Heap.get?_push_size _ rfl
  have kk : ∀ b o, h.get? b = some o → ((h.push emptyDict).push (instObj C h.objs.size)).get? b = some o := fun b o e => Heap.get?_push_of_some _ (Heap.get?_push_of_some _ e)
  obtain ⟨J, x⟩ := Inv.alloc I (h' := (h.push emptyDict).push (instObj C h.objs.size)) (h.objs.size + 1, h.objs.size) (.ins c []) hn1 hn0 ⟨_, g1⟩ ⟨_, g0⟩ kk
    ⟨Nat.succ_ne_self _, C, hC, g1, [], 0, g0, .nil⟩
  have R' : Room (A.under (.builtin "type.__call__" ⟨.ref C :: us, []⟩)) n := by
    have hw : (Code.builtin "type.__call__" ⟨.ref C :: us, []⟩).weight = 1 := by rfl
    have hc : (Code.builtin "type.__call__" ⟨.ref C :: us, []⟩).cUnits = 1 := by rfl
    refine ⟨R.1, ?_, ?_⟩
    · have := R.2.1
      show A.depth + (Code.builtin "type.__call__" ⟨.ref C :: us, []⟩).weight + n ≤ _
      rw [hw]; exact lin this
    · have := R.2.2
      show A.units + (Code.builtin "type.__call__" ⟨.ref C :: us, []⟩).cUnits + 8 * n + 40 ≤ _
      rw [hc]; exact lin this
  have hob : VR F (α ++ [(h.objs.size + 1, h.objs.size)]) (.ob st.length) (.ref (h.objs.size + 1)) := ⟨(h.objs.size + 1, h.objs.size), by rw [← I.len]; simp, rfl⟩
  refine codeAny_mono (w _ ⟨(h.push emptyDict).push (instObj C h.objs.size), g, d, t, os⟩ F _ (.ref (h.objs.size + 1) :: us) R' J (.cons hob (x.vrs r))) fun r' s' p => ?_
  cases r' with
  | error e => exact p
  | ok fl =>
    cases fl with
    | ret v =>
      obtain ⟨F', α', st', av, tk, e, y, I', rv, rfl, q⟩ := p
      cases rv
      refine ⟨rfl, ?_⟩
      exact ⟨F', α', st', .ob st.length, tk, by rw [e], x.trans y, I', y.vr hob, q⟩
    | _ => exact p
end
end Mn
end
section
namespace Mn
noncomputable def mgOf (K : Frag) (x : Str) : Option Value := match K.lookup mainGlobals with
  | some o => (match o.data with | .dict es _ => nsFind es x | _ => none)
  | none => none
noncomputable def mgB (K : Frag) : Bool := match K.lookup mainGlobals with
  | some o => (match o.data with | .dict _ _ => true | _ => false)
  | none => false
theorem mg_of {K : Frag} {h : Heap} {mg : Str → Option Value} (X : K.In h) (hb : mgB K = true) (hn : h.Ns mainGlobals mg) (x : Str) : mg x = mgOf K x := by
  obtain ⟨o, es, ep, ho, hd, _, hf⟩ := hn
  unfold mgB at hb
  unfold mgOf
  cases e : K.lookup mainGlobals with
  | none => rw [e] at hb; cases hb
  | some o' =>
    have := X _ _ e
    rw [ho] at this; cases this
    dsimp only
    rw [hd]
    exact (hf x).symm
mutual
noncomputable def datB (K : Frag) : Nat → D → Value → Bool
  | _, .non, .none => true
  | _, .boo a, .bool b => a == b
  | _, .int i, .int j _ => i == j
  | _, .str s, .str x _ => x.cps.toList == s
  | n + 1, .tup l, .ref a => (match K.lookup a with
    | some ⟨.type "tuple", _, .seq vs _, _⟩ => datsB K n l vs.toList
    | _ => false)
  | _, _, _ => false
noncomputable def datsB (K : Frag) : Nat → List D → List Value → Bool
  | _, [], [] => true
  | n + 1, d :: l, v :: vs => datB K n d v && datsB K n l vs
  | _, _, _ => false
end
theorem dat_ok {K : Frag} {h : Heap} (X : K.In h) : ∀ n, (∀ d v, datB K n d v = true → DR (fun a => h.get? a) d v) ∧ (∀ l vs, datsB K n l vs = true → DRs (fun a => h.get? a) l vs) := by
  intro n
  induction n with
  | zero =>
    refine ⟨fun d v e => ?_, fun l vs e => ?_⟩
    · cases d <;> cases v <;> simp [datB] at e
      · exact .non
      · subst e; exact .boo _
      · subst e; exact .int _ _
      · subst e; exact .str _ _
    · cases l <;> cases vs <;> simp [datsB] at e
      exact .nil
  | succ n ih =>
    refine ⟨fun d v e => ?_, fun l vs e => ?_⟩
    · cases d <;> cases v <;> simp [datB] at e
      · exact .non
      · subst e; exact .boo _
      · subst e; exact .int _ _
      · subst e; exact .str _ _
      · rename_i l a
        split at e
        · rename_i od vs k sl ho
          exact .tup (vs := vs.toList) (X _ _ ho) rfl (by simp; rfl) (ih.2 _ _ e)
        · cases e
    · cases l <;> cases vs <;> simp [datsB] at e
      · exact .nil
      · exact .cons (ih.1 _ _ e.1) (ih.2 _ _ e.2)
noncomputable def fdOf (K : Frag) (a : Addr) : FuncData := match K.lookup a with
  | some ⟨_, _, .func fd, _⟩ => fd
  | _ => default
noncomputable def isFn (K : Frag) (a : Addr) : Bool := match K.lookup a with
  | some ⟨_, _, .func _, _⟩ => true
  | _ => false
theorem isFn_ok {K : Frag} {a : Addr} (e : isFn K a = true) : ∃ o, K.lookup a = some o ∧ o.data = .func (fdOf K a) := by
  unfold isFn at e
  unfold fdOf
  split at e
  · rename_i h; rw [h]; exact ⟨_, rfl, rfl⟩
  · cases e
noncomputable def noDbg (x : Str) : Bool := !(x == ("__debug__" : Str)) && !(x == ("__classdict__" : Str))
noncomputable def fnB (K : Frag) (fi : FnI) : Bool :=
  isFn K fi.addr && decide ((fdOf K fi.addr).scope = fi.scope) && (fdOf K fi.addr).globals == mainGlobals && (fdOf K fi.addr).closure.isEmpty && (fdOf K fi.addr).builtins == builtinsNs &&
  codeIn K (fdOf K fi.addr).code (fdOf K fi.addr).qualname && keepIn K (.ref fi.addr) && decide (fi.scope.kind = .function) && !fi.scope.isCoroutine && !fi.scope.isGenerator &&
  decide (fi.ns.map Str.ofString).Nodup && fi.ns.all (fun x => noDbg (Str.ofString x)) && decide (fi.npar ≤ fi.ns.length) &&
  fi.ns.all (fun x => decide (fi.scope.names.lookup (Str.ofString x) = some .local) || decide (fi.scope.names.lookup (Str.ofString x) = some .cell)) && decide ((fi.scope.names.filter fun x => x.2 == .cell).map (·.1)).Nodup &&
  (fi.gname == "" || (!(Str.ofString fi.gname == ("__debug__" : Str)) && decide (mgOf K (Str.ofString fi.gname) = some (.ref fi.addr))))
noncomputable def clsB (K : Frag) (P : Pg) (c : Nat) (C : Addr) : Bool :=
  decide (findIn K (.ref C) "__getattribute__" = some (some (.builtin "object.__getattribute__"))) && decide (findIn K (.ref C) "__getattr__" = some none) && decide (findIn K (.ref C) "__setattr__" = some (some (.builtin "object.__setattr__"))) &&
  hasDictIn K C && plainOver K C && makesIn K C && keepIn K (.ref C) &&
  (List.range P.flds.length).all (fun f => decide (findIn K (.ref C) (P.fld f) = some none)) &&
  (P.mtab.getD c []).all (fun mf => match P.fns[mf.2]? with
    | some fi => decide (findIn K (.ref C) (Str.ofString (P.mths.getD mf.1 "")) = some (some (.ref fi.addr))) && decide (typeIn K (.ref fi.addr) = some (.type "function")) && (List.range P.flds.length).all (fun g => decide (P.fld g ≠ Str.ofString (P.mths.getD mf.1 "")))
    | none => false) &&
  (match P.inits[c]? with
    | some f => (match P.fns[f]? with | some fi => decide (findIn K (.ref C) "__init__" = some (some (.ref fi.addr))) && decide (typeIn K (.ref fi.addr) = some (.type "function")) | none => false)
    | none => false)
noncomputable def clsAll (K : Frag) (P : Pg) : Nat → List Addr → Bool
  | _, [] => true
  | c, C :: r => clsB K P c C && clsAll K P (c + 1) r
theorem clsAll_get {K : Frag} {P : Pg} : ∀ {c : Nat} {l : List Addr}, clsAll K P c l = true → ∀ (i : Nat) (C : Addr), l[i]? = some C → clsB K P (c + i) C = true
  | _, [], _, i, C, h => by simp at h
  | c, D :: r, e, 0, C, h => by simp at h; subst h; unfold clsAll at e; rw [Bool.and_eq_true] at e; exact e.1
  | c, D :: r, e, i + 1, C, h => by
    unfold clsAll at e; rw [Bool.and_eq_true] at e
    simp at h
    have := clsAll_get e.2 i C h
    rwa [show c + 1 + i = c + (i + 1) by omega] at this
noncomputable def gtB (K : Frag) (q : String × D) : Bool := !(Str.ofString q.1 == ("__debug__" : Str)) && (match mgOf K (Str.ofString q.1) with | some v => datB K 12 q.2 v | none => false)
noncomputable def biL : List BI := [.int, .len, .chr, .ord, .str, .abs, .min, .tuple, .rev]
theorem biL_all (b : BI) : b ∈ biL := by cases b <;> simp [biL]
noncomputable def btB (K : Frag) (x : Str) (v : Value) : Bool := decide (mgOf K x = none) && decide (bootBuiltins x = some v) && !(x == ("__name__" : Str))
noncomputable def clgB (K : Frag) : List Addr → List String → Bool
  | C :: r, x :: s => !(Str.ofString x == ("__debug__" : Str)) && decide (mgOf K (Str.ofString x) = some (.ref C)) && clgB K r s
  | _, _ => true
theorem clgB_get {K : Frag} : ∀ {l : List Addr} {s : List String}, clgB K l s = true → ∀ (i : Nat) (C : Addr) (x : String), l[i]? = some C → s[i]? = some x → (Str.ofString x == ("__debug__" : Str)) = false ∧ mgOf K (Str.ofString x) = some (.ref C)
  | [], _, _, i, C, x, h, _ => by simp at h
  | _ :: _, [], _, i, C, x, _, h => by simp at h
  | D :: r, y :: s, e, 0, C, x, h, h' => by
    simp at h h'; subst h; subst h'
    unfold clgB at e; simp only [Bool.and_eq_true, Bool.not_eq_true', decide_eq_true_eq] at e
    exact e.1
  | D :: r, y :: s, e, i + 1, C, x, h, h' => by
    unfold clgB at e; simp only [Bool.and_eq_true] at e
    simp at h h'
    exact clgB_get e.2 i C x h h'
noncomputable def Binds (K : Frag) (fi : FnI) : Prop := ∀ (B : Heap) (s : Shared) (vs : List Value), K.In B → (∀ b o, B.get? b = some o → s.heap.get? b = some o) → vs.length ≤ fi.npar → fi.npar ≤ vs.length + fi.defs.length →
  ∃ dv, DRs (fun a => B.get? a) (fi.defs.drop (vs.length + fi.defs.length - fi.npar)) dv ∧ BindsTo s (fdOf K fi.addr) ⟨vs, []⟩ (((fi.ns.take fi.npar).map Str.ofString).zip (vs ++ dv))
noncomputable def AllB (K : Frag) : List FnI → Prop
  | [] => True
  | fi :: r => ((fdOf K fi.addr).body = .stmts fi.body ∧ Binds K fi) ∧ AllB K r
theorem AllB.get {K : Frag} : ∀ {l : List FnI}, AllB K l → ∀ (f : Nat) (fi : FnI), l[f]? = some fi → (fdOf K fi.addr).body = .stmts fi.body ∧ Binds K fi
  | [], _, f, fi, h => by simp at h
  | _ :: _, x, 0, fi, h => by simp at h; subst h; exact x.1
  | _ :: _, x, f + 1, fi, h => by simp at h; exact AllB.get x.2 f fi h
noncomputable def AllI (P : Pg) : List FnI → List Ss → Prop
  | fi :: r, ir :: s => (fi.body = toSs P fi.ns ir ∧ okSs P (gOf fi.ns fi.scope) ir = true) ∧ AllI P r s
  | _, _ => True
theorem AllI.get {P : Pg} : ∀ {l : List FnI} {s : List Ss}, AllI P l s → ∀ (f : Nat) (fi : FnI) (ir : Ss), l[f]? = some fi → s[f]? = some ir → fi.body = toSs P fi.ns ir ∧ okSs P (gOf fi.ns fi.scope) ir = true
  | [], _, _, f, fi, ir, h, _ => by simp at h
  | _ :: _, [], _, f, fi, ir, _, h => by simp at h
  | _ :: _, _ :: _, x, 0, fi, ir, h, h' => by simp at h h'; subst h; subst h'; exact x.1
  | _ :: _, _ :: _, x, f + 1, fi, ir, h, h' => by simp at h h'; exact AllI.get x.2 f fi ir h h'
theorem wd_ok {Γ : Wd} (X : Γ.K.In Γ.B) (hg : Γ.B.Ns mainGlobals Γ.mg) (hb : Γ.B.Ns builtinsNs Γ.mb) (hl : Γ.B.NoLimit) (hbb : ∀ x : Str, x ≠ "__name__" → Γ.mb x = bootBuiltins x)
    (m : mgB Γ.K = true) (f1 : Γ.P.fns.all (fnB Γ.K) = true) (f2 : AllB Γ.K Γ.P.fns) (c1 : clsAll Γ.K Γ.P 0 Γ.P.clss = true) (g1 : Γ.P.gtab.all (gtB Γ.K) = true)
    (b1 : biL.all (fun b => btB Γ.K (Str.ofString b.name) b.val) = true) (b2 : btB Γ.K (Str.ofString "range") (.type "range") = true) (b3 : btB Γ.K (Str.ofString "reversed") (.type "reversed") = true)
    (c2 : clgB Γ.K Γ.P.clss Γ.P.clsN = true) (n1 : (Γ.P.flds.map Str.ofString).Nodup) : WdOK Γ := by
  have MG := mg_of X m hg
  have bt : ∀ {x : Str} {v : Value}, btB Γ.K x v = true → Γ.mg x = none ∧ Γ.mb x = some v := fun {x v} e => by
    unfold btB at e
    simp only [Bool.and_eq_true, decide_eq_true_eq, Bool.not_eq_true', beq_eq_false_iff_ne] at e
    exact ⟨(MG x).trans e.1.1, (hbb x e.2).trans e.1.2⟩
  have fnb : ∀ (f : Nat) (fi : FnI), Γ.P.fns[f]? = some fi → fnB Γ.K fi = true := fun f fi h => List.all_eq_true.mp f1 fi (List.mem_of_getElem? h)
  refine ⟨X, hg, hb, hl, fun k x d h => ?_, fun b => bt (List.all_eq_true.mp b1 b (biL_all b)), bt b2, bt b3, fun f fi h => ?_, fun f fi h hn => ?_, fun c C h => ?_, fun c C x h h' => ?_, fun f g hf hg' e => ?_, modules_low hl⟩
  · have := List.all_eq_true.mp g1 _ (List.mem_of_getElem? h)
    unfold gtB at this
    simp only [Bool.and_eq_true, Bool.not_eq_true'] at this
    refine ⟨this.1, ?_⟩
    have h2 := this.2
    split at h2
    · rename_i v hv
      exact ⟨v, (MG _).trans hv, (dat_ok X 12).1 _ _ h2⟩
    · cases h2
  · have e := fnb f fi h
    obtain ⟨hbody, hbind⟩ := f2.get f fi h
    unfold fnB at e
    simp only [Bool.and_eq_true, Bool.or_eq_true, decide_eq_true_eq, beq_iff_eq, Bool.not_eq_true', List.all_eq_true, List.isEmpty_iff] at e
    obtain ⟨⟨⟨⟨⟨⟨⟨⟨⟨⟨⟨⟨⟨⟨⟨e1, e2⟩, e3⟩, e4⟩, e5⟩, e6⟩, e7⟩, e8⟩, e9⟩, e10⟩, e11⟩, e12⟩, e13⟩, e14⟩, e15⟩, _⟩ := e
    obtain ⟨o, ho, hd⟩ := isFn_ok e1
    refine ⟨⟨o, fdOf Γ.K fi.addr, X _ _ ho, hd, e2, hbody, e3, e4, e5, codeRec_of X e6, fun s vs hs h1 h2 => hbind Γ.B s vs X hs h1 h2⟩, e7, e8, e9, e10, e11, fun x hx => ?_, e13, e14, e15⟩
    have := e12 x hx
    unfold noDbg at this
    simp only [Bool.and_eq_true, Bool.not_eq_true'] at this
    exact this
  · have e := fnb f fi h
    unfold fnB at e
    simp only [Bool.and_eq_true, Bool.or_eq_true, beq_iff_eq, Bool.not_eq_true', decide_eq_true_eq] at e
    rcases e.2 with c | c
    · exact absurd c hn
    · exact ⟨c.1, (MG _).trans c.2⟩
  · have e := clsAll_get c1 c C h
    rw [Nat.zero_add] at e
    unfold clsB at e
    simp only [Bool.and_eq_true, decide_eq_true_eq, List.all_eq_true, List.mem_range] at e
    obtain ⟨⟨⟨⟨⟨⟨⟨⟨⟨e1, e2⟩, e3⟩, e4⟩, e5⟩, e6⟩, e7⟩, e8⟩, e9⟩, e10⟩ := e
    refine ⟨e1, e2, e3, e4, e5, e8, e6, e7, fun mm f hm => ?_, ?_⟩
    · unfold mthOf at hm
      obtain ⟨l, hl', hlk⟩ := Option.bind_eq_some_iff.mp hm
      have hmem : (mm, f) ∈ Γ.P.mtab.getD c [] := by
        rw [List.getD_eq_getElem?_getD, hl']
        show (mm, f) ∈ l
        clear hl'
        induction l with
        | nil => cases hlk
        | cons p r ih =>
          obtain ⟨a, b⟩ := p
          rw [List.lookup_cons] at hlk
          by_cases hp : (mm == a) = true
          · rw [hp] at hlk
            cases hlk
            rw [eq_of_beq hp]
            exact List.mem_cons_self
          · rw [Bool.not_eq_true] at hp
            rw [hp] at hlk
            exact List.mem_cons_of_mem _ (ih hlk)
      have := e9 _ hmem
      dsimp only at this
      split at this
      · rename_i fi hfi
        simp only [Bool.and_eq_true, decide_eq_true_eq, List.all_eq_true, List.mem_range] at this
        exact ⟨fi, hfi, this.1.1, this.1.2, this.2⟩
      · cases this
    · split at e10
      · rename_i f hf
        split at e10
        · rename_i fi hfi
          simp only [Bool.and_eq_true, decide_eq_true_eq] at e10
          exact ⟨f, fi, hf, hfi, e10.1, e10.2⟩
        · cases e10
      · cases e10
  · obtain ⟨d1, d2⟩ := clgB_get c2 c C x h h'
    exact ⟨d1, (MG _).trans d2⟩
  · have h1 : (Γ.P.flds.map Str.ofString)[f]'(by rw [List.length_map]; exact hf) = (Γ.P.flds.map Str.ofString)[g]'(by rw [List.length_map]; exact hg') := by
      rw [List.getElem_map, List.getElem_map]
      unfold Pg.fld at e
      rw [List.getD_eq_getElem?_getD, List.getD_eq_getElem?_getD, List.getElem?_eq_getElem hf, List.getElem?_eq_getElem hg'] at e
      exact e
    exact (List.getElem_inj n1).mp h1
end Mn
end
section
namespace Mn
theorem lookup_zip' : ∀ {ns : List Str} {vs : List Value}, ns.Nodup → ∀ (i : Nat) (x : Str), ns[i]? = some x → (ns.zip vs).lookup x = vs[i]?
  | [], _, _, i, x, h => by simp at h
  | y :: r, [], _, i, x, h => by simp
  | y :: r, v :: vs, hn, 0, x, h => by
    simp at h; subst h
    rw [List.zip_cons_cons, List.lookup_cons]; simp
  | y :: r, v :: vs, hn, i + 1, x, h => by
    rw [List.nodup_cons] at hn
    simp at h
    have hx : x ≠ y := fun e => hn.1 (e ▸ List.mem_of_getElem? h)
    rw [List.zip_cons_cons, List.lookup_cons]
    have hb : (x == y) = false := beq_eq_false_iff_ne.mpr hx
    rw [hb, List.getElem?_cons_succ]
    exact lookup_zip' hn.2 i x h
noncomputable def addB (acc : List (Str × Value)) (x : Str × Value) : List (Str × Value) := if (acc.lookup x.1).isNone = true then acc ++ [(x.1, x.2)] else acc
theorem for_add : ∀ (l : List (Str × Value)) (acc : List (Str × Value)),
    (forIn l acc fun x (r : List (Str × Value)) => (if (List.lookup x.1 r).isNone = true then pure (ForInStep.yield (r ++ [(x.1, x.2)])) else pure (ForInStep.yield r) : Sem (ForInStep (List (Str × Value))))) = pure (l.foldl addB acc)
  | [], acc => by rw [List.forIn_nil]; rfl
  | x :: l, acc => by
    rw [List.forIn_cons, List.foldl_cons]
    unfold addB
    by_cases h : (List.lookup x.1 acc).isNone = true
    · rw [if_pos h, if_pos h, pure_bind]
      exact for_add l _
    · rw [if_neg h, if_neg h, pure_bind]
      exact for_add l _
theorem fold_add : ∀ (l acc : List (Str × Value)), (l.map (·.1)).Nodup → l.foldl addB acc = acc ++ l.filter fun x => (acc.lookup x.1).isNone
  | [], acc, _ => by simp
  | x :: l, acc, hn => by
    rw [List.map_cons, List.nodup_cons] at hn
    rw [List.foldl_cons, fold_add l _ hn.2]
    unfold addB
    rw [List.filter_cons]
    by_cases h : (acc.lookup x.1).isNone = true
    · rw [if_pos h, if_pos h, List.append_assoc, List.singleton_append]
      congr 2
      apply List.filter_congr
      intro y hy
      rw [List.lookup_append]
      have : (y.1 == x.1) = false := beq_eq_false_iff_ne.mpr fun e => hn.1 (e ▸ List.mem_map_of_mem hy)
      simp [List.lookup_cons, this]
    · rw [if_neg h, if_neg h]
theorem lookup_filter {p : Str × Value → Bool} {n : Str} (hp : ∀ v, p (n, v) = true) : ∀ l : List (Str × Value), (l.filter p).lookup n = l.lookup n
  | [] => rfl
  | (m, v) :: l => by
    rw [List.filter_cons, List.lookup_cons]
    by_cases e : (n == m) = true
    · have : n = m := eq_of_beq e
      subst this
      rw [hp v, if_pos rfl, List.lookup_cons]
      simp
    · rw [Bool.not_eq_true] at e
      rw [e]
      split
      · rw [List.lookup_cons, e]; exact lookup_filter hp l
      · exact lookup_filter hp l
theorem filterMap_zip : ∀ {ns : List Str} {full : List Value} {g : Str → Option Value}, full.length = ns.length → (∀ (i : Nat) (x : Str), ns[i]? = some x → g x = full[i]?) → ns.filterMap (fun n => (g n).map fun v => (n, v)) = ns.zip full
  | [], _, _, _, _ => by simp
  | x :: r, [], _, h, _ => by simp at h
  | x :: r, v :: vs, g, h, hg => by
    have h0 := hg 0 x rfl
    simp only [List.getElem?_cons_zero] at h0
    rw [List.filterMap_cons, h0, List.zip_cons_cons]
    simp only [Option.map_some]
    rw [filterMap_zip (by simpa using h) fun i y hy => ?_]
    have := hg (i + 1) y (by simpa using hy)
    simpa using this
theorem bind_gen {s : Shared} {fd : FuncData} {names : List Str} {vs : List Value} {ds : List Value}
    (hp : fd.params.posonlyargs = []) (ha : fd.params.args.map (·.arg) = names) (hk : fd.params.kwonlyargs = []) (hv : fd.params.vararg = none) (hw : fd.params.kwarg = none)
    (hs : ∀ (M : Model) (A : Around) (E : Value → Shared → Prop) (Q : Option (Array Value) → Shared → Prop), (∀ o, (o.getD #[]).toList = ds → Q o s) → wpAny M A (seqItems? fd.defaults) Q E s)
    (hn : names.Nodup) (h1 : vs.length ≤ names.length) (h2 : names.length ≤ vs.length + ds.length) (h3 : ds.length ≤ names.length) : BindsTo s fd ⟨vs, []⟩ (names.zip (vs ++ ds.drop (vs.length + ds.length - names.length))) := by
  intro M A E Q q
  unfold bindArgs
  simp only [hp, ha, hk, hv, hw, List.map_nil, List.nil_append, List.forIn_nil, pure_bind, List.append_nil]
  refine wpAny_bind (hs _ _ _ _ fun o ho => ?_)
  have c1 : ¬ (vs.length > names.length) := by omega
  simp only [ho, decide_eq_false c1, Bool.false_and, Bool.false_eq_true, if_false]
  have c2 : ds.length - names.length = 0 := by omega
  rw [c2, List.drop_zero]
  have c3 : (List.filter (fun n => (List.lookup n (names.zip vs)).isNone) (List.take (names.length - ds.length) names)) = [] := by
    rw [List.filter_eq_nil_iff]
    intro x hx
    obtain ⟨i, hi⟩ := List.mem_iff_getElem?.mp hx
    rw [List.getElem?_take] at hi
    split at hi
    · rename_i hlt
      rw [lookup_zip' hn i x hi, List.getElem?_eq_getElem (by omega)]
      simp
    · cases hi
  rw [c3]
  simp only [List.isEmpty_nil, Bool.not_true, Bool.false_eq_true, if_false]
  rw [for_add, pure_bind]
  refine wpAny_pure ?_
  have c4 : (((List.drop (names.length - ds.length) names).zip ds).map (·.1)).Nodup := by
    have : ((List.drop (names.length - ds.length) names).zip ds).map (·.1) = List.drop (names.length - ds.length) names := by
      rw [List.map_fst_zip]
      rw [List.length_drop]; omega
    rw [this]
    exact hn.sublist (List.drop_sublist _ _)
  rw [fold_add _ _ c4]
  rw [filterMap_zip (full := vs ++ ds.drop (vs.length + ds.length - names.length))]
  · exact q
  · rw [List.length_append, List.length_drop]; omega
  · intro i x hx
    have hi : i < names.length := (List.getElem?_eq_some_iff.mp hx).1
    rw [List.lookup_append, lookup_zip' hn i x hx]
    by_cases h : i < vs.length
    · rw [List.getElem?_append_left h, List.getElem?_eq_getElem h]; rfl
    · have e : vs[i]? = none := List.getElem?_eq_none (lin (Nat.le_of_not_lt h))
      rw [e, Option.none_or, lookup_filter (fun v => by rw [lookup_zip' hn i x hx, e]; rfl), List.getElem?_append_right (lin (Nat.le_of_not_lt h)), List.getElem?_drop]
      have : (List.drop (names.length - ds.length) names)[i - (names.length - ds.length)]? = some x := by
        rw [List.getElem?_drop, show names.length - ds.length + (i - (names.length - ds.length)) = i by omega]; exact hx
      rw [lookup_zip' (hn.sublist (List.drop_sublist _ _)) _ x this]
      congr 1
      omega
noncomputable def defsOf (K : Frag) (fd : FuncData) : Option (List Value) := match fd.defaults with
  | .none => some []
  | .ref T => (match K.lookup T with | some ⟨_, _, .seq vs _, _⟩ => some vs.toList | _ => none)
  | _ => none
noncomputable def bindB (K : Frag) (fi : FnI) : Bool :=
  let fd := fdOf K fi.addr
  fd.params.posonlyargs.isEmpty && decide (fd.params.args.map (·.arg) = (fi.ns.take fi.npar).map Str.ofString) && fd.params.kwonlyargs.isEmpty && fd.params.vararg.isNone && fd.params.kwarg.isNone &&
  (match defsOf K fd with | some dv => datsB K 20 fi.defs dv | none => false) && decide ((fi.ns.map Str.ofString).Nodup) && decide (fi.defs.length ≤ fi.npar) && decide (fi.npar ≤ fi.ns.length)
theorem binds_of {K : Frag} {fi : FnI} (e : bindB K fi = true) : Binds K fi := by
  intro B s vs hB hs h1 h2
  unfold bindB at e
  simp only [Bool.and_eq_true, decide_eq_true_eq, List.isEmpty_iff, Option.isNone_iff_eq_none] at e
  obtain ⟨⟨⟨⟨⟨⟨⟨⟨e1, e2⟩, e3⟩, e4⟩, e5⟩, e6⟩, e7⟩, e8⟩, e9⟩ := e
  cases hd : defsOf K (fdOf K fi.addr) with
  | none => rw [hd] at e6; cases e6
  | some dv =>
    rw [hd] at e6
    have D := (dat_ok hB 20).2 _ _ e6
    have hlen := D.length
    have hnl : ((fi.ns.take fi.npar).map Str.ofString).length = fi.npar := by rw [List.length_map, List.length_take]; omega
    refine ⟨dv.drop (vs.length + fi.defs.length - fi.npar), D.drop _, ?_⟩
    have := bind_gen (s := s) (vs := vs) (ds := dv) e1 e2 e3 e4 e5 ?_ ?_ (by rw [hnl]; exact h1) (by rw [hnl, ← hlen]; exact h2) (by rw [hnl, ← hlen]; exact e8)
    · rw [hnl, ← hlen] at this; exact this
    · intro M A E Q q
      unfold defsOf at hd
      split at hd
      · rename_i h
        cases hd
        rw [h]
        exact wpAny_pure (q _ rfl)
      · rename_i T h
        split at hd
        · rename_i c d vs' k sl ho
          cases hd
          rw [h]
          exact wpAny_seqItems (hs _ _ (hB _ _ ho)) rfl (q _ rfl)
        · cases hd
      · cases hd
    · rw [List.map_take]; exact e7.sublist (List.take_sublist _ _)
end Mn
end
section
namespace Mn
theorem drs_ints {F : Fz} : ∀ {vs : List Value} {is : List Int}, IntsAre vs is → DRs F (is.map .int) vs := by
  intro vs is h
  induction h with
  | nil => exact .nil
  | cons n t _ ih => exact .cons (.int n t) ih
noncomputable def lawVars (ns : List String) (is : List Int) : Vars := some (.d (.lst (is.map .int))) :: List.replicate (ns.length - 1) none
theorem law_entry {Γ : Wd} (W : WdOK Γ)
    {env : Env} {x0 : String} {nr : List String} {ir : Ss} {n : Nat}
    (e0 : env.locals = Γ.B.objs.size) (e1 : env.scope.kind = .function) (e3 : env.globals = mainGlobals) (e4 : env.builtins = builtinsNs) {cn : Str} (e5 : env.cells = [(cn, Γ.B.objs.size + 1)])
    (hok : okSs Γ.P (gOf (x0 :: nr) env.scope) ir = true) (hchk : (decide ((x0 :: nr).map Str.ofString).Nodup && (x0 :: nr).all (fun x => noDbg (Str.ofString x)) && (x0 :: nr).all (fun x => decide (env.scope.names.lookup (Str.ofString x) = some .local) || (decide (env.scope.names.lookup (Str.ofString x) = some .cell) && (Str.ofString x == cn))) && decide (env.scope.names.lookup (Str.ofString x0) = some .local)) = true)
    (hcn : Γ.B.get? (Γ.B.objs.size + 1) = none)
    {L : Addr} {vs : List Value} {is : List Int} (hL : Γ.B.IsList L vs.toArray) (hI : IntsAre vs is) {s : Shared} {m : Str → Option Value} (F : Fr Γ.B Γ.B.objs.size s.heap m) (hm : m (Str.ofString x0) = some (.ref L)) (hce : ∃ v, s.heap.IsCell (Γ.B.objs.size + 1) v)
    {A : Around} (R : Room A n) (run : wpSs Γ.P (CallOK Γ n) (NewOK Γ n) ir (lawVars (x0 :: nr) is) [] fun fl _ _ => fl = .rt (.d (.boo true))) :
    wpAny (model Γ.prog Γ.w) A (execs (toSs Γ.P (x0 :: nr) ir) env) (fun f s' => f = .ret (.bool true) ∧ (∀ b o, Γ.B.get? b = some o → s'.heap.get? b = some o) ∧ ∃ tk, s' = { s with heap := s'.heap, toks := tk }) NE s := by
  simp only [Bool.and_eq_true, decide_eq_true_eq, List.all_eq_true] at hchk
  obtain ⟨⟨⟨hnd, hdbg⟩, hloc⟩, hx0⟩ := hchk
  have hn := none_new (h := Γ.B) rfl
  have efp : fpOf env = [Γ.B.objs.size, Γ.B.objs.size + 1] := by unfold fpOf; rw [e0, e5]; rfl
  have EK : EOK env (x0 :: nr) := ⟨e1, e3, e4, hnd, fun x hx => by
    have := hdbg x hx
    unfold noDbg at this
    simp only [Bool.and_eq_true, Bool.not_eq_true'] at this
    exact this, by rw [efp]; simp, by unfold interactive; rw [e1]; rfl⟩
  have SO : StOK env (x0 :: nr) := fun x hx => by
    have h := hloc x hx
    rw [Bool.or_eq_true, Bool.and_eq_true, decide_eq_true_eq, decide_eq_true_eq] at h
    rcases h with h | ⟨h, k⟩
    · exact .inl h
    · refine .inr ⟨h, ?_⟩
      rw [e5, show Str.ofString x = cn from beq_iff_eq.mp k, List.lookup_cons, beq_self_eq_true]
      rfl
  have hg : GOK (gOf (x0 :: nr) env.scope) env (x0 :: nr) := ⟨rfl, fun x k hx => hx⟩
  have I : Inv Γ (fun a => Γ.B.get? a) [] [] s.heap := ⟨fun a o e => F.keep a o e, fun a o e => e, rfl, fun i p ao h => (by simp at h), fun a ha => (by cases ha), fun a ha => (by cases ha), List.Pairwise.nil⟩
  have script : DR (fun a => Γ.B.get? a) (.lst (is.map .int)) (.ref L) := by
    obtain ⟨o, ho, hc, k, hd⟩ := hL
    exact .lst (F := fun a => Γ.B.get? a) ho hc hd (drs_ints hI)
  have f : FrS (fun a => Γ.B.get? a = none) (fun a => Γ.B.get? a) [] env (x0 :: nr) (lawVars (x0 :: nr) is) (fun _ => 0) s.heap := by
    have noown : ∀ (i : Nat) (l : List D), (lawVars (x0 :: nr) is)[i]? ≠ some (some (.own l)) := fun i l c => by
      unfold lawVars at c
      cases i with
      | zero => simp at c
      | succ i =>
        rw [List.getElem?_cons_succ] at c
        obtain ⟨_, e⟩ := List.getElem?_eq_some_iff.mp c
        rw [List.getElem_replicate] at e
        cases e
    refine ⟨⟨⟨m, by rw [e0]; exact F.ns⟩, by simp [lawVars], fun i x av hx hv => ?_, fun a ha => ?_, fun i l e => (noown i l e).elim, fun i j l m e => (noown i l e).elim, fun c hc => by rw [e5] at hc; cases List.mem_singleton.mp hc; exact hce⟩, fun a ha => ?_, fun i l e => (noown i l e).elim, fun a e => ?_⟩
    · unfold lawVars at hv
      cases i with
      | zero =>
        simp only [List.getElem?_cons_zero, Option.some.injEq] at hx hv
        subst hx; subst hv
        exact ⟨.ref L, .inl ⟨hx0, m, by rw [e0]; exact F.ns, hm⟩, script⟩
      | succ i =>
        rw [List.getElem?_cons_succ] at hv
        obtain ⟨_, e⟩ := List.getElem?_eq_some_iff.mp hv
        rw [List.getElem_replicate] at e
        cases e
    · rw [efp] at ha
      rcases List.mem_cons.mp ha with ha | ha
      · subst ha
        obtain ⟨o, _, _, ho, _⟩ := F.ns
        exact ⟨hn, (by simp [sAddrs]), o, ho⟩
      · cases List.mem_singleton.mp ha
        obtain ⟨v, o, ho, _⟩ := hce
        exact ⟨hcn, (by simp [sAddrs]), o, ho⟩
    · rw [efp] at ha
      rcases List.mem_cons.mp ha with ha | ha
      · subst ha; exact hn
      · cases List.mem_singleton.mp ha; exact hcn
    · cases e' : Γ.B.get? a with
      | none => rfl
      | some o => rw [F.keep a o e'] at e; cases e
  refine wpAny_mono (semSs W SO EK (gOf (x0 :: nr) env.scope) hg ir hok _ A s _ [] [] _ _ (fun fl _ _ => fl = .rt (.d (.boo true))) R I f run) (fun fl s' p => ?_) fun _ _ e => e
  obtain ⟨F', α', st'', vars', oa', g, hs, x, I', f', rr, q⟩ := p
  subst q
  cases rr with
  | rt r =>
    rename_i u
    have : u = .bool true := by cases r; rfl
    subst this
    exact ⟨rfl, I'.bkeep, hs⟩
end Mn
end
section
namespace Mn
noncomputable def p (l a b : Nat) : Pos := ⟨l, a, l, b⟩
noncomputable def ns0 : List String := []
noncomputable def ir0 : Ss := (.cons (.ret (.tup (.cons (.cstr "[]" 0 (p 13 12 16)) (.cons (.cstr "." 0 (p 13 18 21)) (.cons (.cstr "{}" 0 (p 13 23 27)) (.cons (.cstr "-" 0 (p 13 29 32)) (.cons (.cstr "+" 0 (p 13 34 37)) (.cons (.cstr "*" 0 (p 13 39 42)) (.cons (.cstr "/" 0 (p 13 44 47)) (.cons (.cstr "," 0 (p 13 49 52)) (.cons (.cstr "|" 0 (p 13 54 57)) (.cons (.cstr ";" 0 (p 13 59 62)) (.cons (.cstr "->" 0 (p 13 64 68)) (.cons (.cstr "\\+" 0 (p 13 70 75)) (.cons (.cstr ":-" 0 (p 13 77 81)) (.cons (.cstr "?-" 0 (p 13 83 87)) (.cons (.cstr "-->" 0 (p 13 89 94)) (.cons (.cstr "!" 0 (p 13 96 99)) (.cons (.cstr "true" 0 (p 13 101 107)) (.cons (.cstr "fail" 0 (p 13 109 115)) (.cons (.cstr "false" 0 (p 13 117 124)) (.cons (.cstr "call" 0 (p 13 126 132)) (.cons (.cstr "=" 0 (p 13 134 137)) (.cons (.cstr "^" 0 (p 13 139 142)) (.cons (.cstr "error" 0 (p 13 144 151)) (.cons (.cstr "" 0 (p 13 153 155)) (.cons (.cstr "end_of_file" 0 (p 13 157 170)) (.cons (.cstr "system" 0 (p 13 172 180)) (.cons (.cstr "$VAR" 0 (p 13 182 188)) (.cons (.cstr "catch" 0 (p 13 190 197)) (.cons (.cstr "throw" 0 (p 13 199 206)) .nil))))))))))))))))))))))))))))) 0 (p 13 11 207)) (p 13 4 207))
  .nil)
noncomputable def sc0 : Scope := ⟨.function, [], false, false, []⟩
noncomputable def fh0 : FnI := ⟨28, "fixed_atoms", Str.ofString "fixed_atoms", sc0, ⟨[], [], none, [], [], none, []⟩, [], ns0, 0, []⟩
noncomputable def ns1 : List String := []
noncomputable def ir1 : Ss := (.cons (.ret (.tup (.cons (.tup (.cons (.cstr "." 0 (p 15 13 16)) (.cons (.cint (2) 0 (p 15 18 19)) .nil)) 0 (p 15 12 20)) (.cons (.tup (.cons (.cstr "," 0 (p 15 23 26)) (.cons (.cint (2) 0 (p 15 28 29)) .nil)) 0 (p 15 22 30)) (.cons (.tup (.cons (.cstr ";" 0 (p 15 33 36)) (.cons (.cint (2) 0 (p 15 38 39)) .nil)) 0 (p 15 32 40)) (.cons (.tup (.cons (.cstr "->" 0 (p 15 43 47)) (.cons (.cint (2) 0 (p 15 49 50)) .nil)) 0 (p 15 42 51)) (.cons (.tup (.cons (.cstr "\\+" 0 (p 15 54 59)) (.cons (.cint (1) 0 (p 15 61 62)) .nil)) 0 (p 15 53 63)) (.cons (.tup (.cons (.cstr ":-" 0 (p 15 66 70)) (.cons (.cint (2) 0 (p 15 72 73)) .nil)) 0 (p 15 65 74)) (.cons (.tup (.cons (.cstr ":-" 0 (p 15 77 81)) (.cons (.cint (1) 0 (p 15 83 84)) .nil)) 0 (p 15 76 85)) (.cons (.tup (.cons (.cstr "?-" 0 (p 15 88 92)) (.cons (.cint (1) 0 (p 15 94 95)) .nil)) 0 (p 15 87 96)) (.cons (.tup (.cons (.cstr "-->" 0 (p 15 99 104)) (.cons (.cint (2) 0 (p 15 106 107)) .nil)) 0 (p 15 98 108)) (.cons (.tup (.cons (.cstr "{}" 0 (p 15 111 115)) (.cons (.cint (1) 0 (p 15 117 118)) .nil)) 0 (p 15 110 119)) (.cons (.tup (.cons (.cstr "=" 0 (p 15 122 125)) (.cons (.cint (2) 0 (p 15 127 128)) .nil)) 0 (p 15 121 129)) (.cons (.tup (.cons (.cstr "^" 0 (p 15 132 135)) (.cons (.cint (2) 0 (p 15 137 138)) .nil)) 0 (p 15 131 139)) (.cons (.tup (.cons (.cstr "-" 0 (p 15 142 145)) (.cons (.cint (1) 0 (p 15 147 148)) .nil)) 0 (p 15 141 149)) (.cons (.tup (.cons (.cstr "-" 0 (p 15 152 155)) (.cons (.cint (2) 0 (p 15 157 158)) .nil)) 0 (p 15 151 159)) (.cons (.tup (.cons (.cstr "+" 0 (p 15 162 165)) (.cons (.cint (2) 0 (p 15 167 168)) .nil)) 0 (p 15 161 169)) (.cons (.tup (.cons (.cstr "/" 0 (p 15 172 175)) (.cons (.cint (2) 0 (p 15 177 178)) .nil)) 0 (p 15 171 179)) (.cons (.tup (.cons (.cstr "error" 0 (p 15 182 189)) (.cons (.cint (2) 0 (p 15 191 192)) .nil)) 0 (p 15 181 193)) (.cons (.tup (.cons (.cstr "$VAR" 0 (p 15 196 202)) (.cons (.cint (1) 0 (p 15 204 205)) .nil)) 0 (p 15 195 206)) (.cons (.tup (.cons (.cstr "catch" 0 (p 15 209 216)) (.cons (.cint (3) 0 (p 15 218 219)) .nil)) 0 (p 15 208 220)) (.cons (.tup (.cons (.cstr "throw" 0 (p 15 223 230)) (.cons (.cint (1) 0 (p 15 232 233)) .nil)) 0 (p 15 222 234)) (.cons (.tup (.cons (.cstr "!" 0 (p 15 237 240)) (.cons (.cint (0) 0 (p 15 242 243)) .nil)) 0 (p 15 236 244)) (.cons (.tup (.cons (.cstr "true" 0 (p 15 247 253)) (.cons (.cint (0) 0 (p 15 255 256)) .nil)) 0 (p 15 246 257)) (.cons (.tup (.cons (.cstr "fail" 0 (p 15 260 266)) (.cons (.cint (0) 0 (p 15 268 269)) .nil)) 0 (p 15 259 270)) (.cons (.tup (.cons (.cstr "false" 0 (p 15 273 280)) (.cons (.cint (0) 0 (p 15 282 283)) .nil)) 0 (p 15 272 284)) (.cons (.tup (.cons (.cstr "call" 0 (p 15 287 293)) (.cons (.cint (1) 0 (p 15 295 296)) .nil)) 0 (p 15 286 297)) (.cons (.tup (.cons (.cstr "call" 0 (p 15 300 306)) (.cons (.cint (2) 0 (p 15 308 309)) .nil)) 0 (p 15 299 310)) (.cons (.tup (.cons (.cstr "call" 0 (p 15 313 319)) (.cons (.cint (3) 0 (p 15 321 322)) .nil)) 0 (p 15 312 323)) (.cons (.tup (.cons (.cstr "call" 0 (p 15 326 332)) (.cons (.cint (4) 0 (p 15 334 335)) .nil)) 0 (p 15 325 336)) (.cons (.tup (.cons (.cstr "call" 0 (p 15 339 345)) (.cons (.cint (5) 0 (p 15 347 348)) .nil)) 0 (p 15 338 349)) (.cons (.tup (.cons (.cstr "call" 0 (p 15 352 358)) (.cons (.cint (6) 0 (p 15 360 361)) .nil)) 0 (p 15 351 362)) (.cons (.tup (.cons (.cstr "call" 0 (p 15 365 371)) (.cons (.cint (7) 0 (p 15 373 374)) .nil)) 0 (p 15 364 375)) (.cons (.tup (.cons (.cstr "call" 0 (p 15 378 384)) (.cons (.cint (8) 0 (p 15 386 387)) .nil)) 0 (p 15 377 388)) .nil)))))))))))))))))))))))))))))))) 0 (p 15 11 389)) (p 15 4 389))
  .nil)
noncomputable def sc1 : Scope := ⟨.function, [], false, false, []⟩
noncomputable def fh1 : FnI := ⟨35, "fixed_functors", Str.ofString "fixed_functors", sc1, ⟨[], [], none, [], [], none, []⟩, [], ns1, 0, []⟩
noncomputable def ns2 : List String := ["self", "text", "row"]
noncomputable def ir2 : Ss := (.cons (.asgA (.loc 0 (p 19 8 12)) 0 (.newl (p 19 21 23)) (p 19 8 18) (p 19 8 23))
  (.cons (.asgA (.loc 0 (p 20 8 12)) 1 (.newd (p 20 28 30)) (p 20 8 25) (p 20 8 30))
  (.cons (.asgA (.loc 0 (p 21 8 12)) 2 (.newl (p 21 24 26)) (p 21 8 21) (p 21 8 26))
  (.cons (.asgA (.loc 0 (p 22 8 12)) 3 (.newd (p 22 31 33)) (p 22 8 28) (p 22 8 33))
  (.cons (.for_ (.nm 1 (p 23 12 16)) .over (.cal 0 .nil (p 23 20 31) (p 23 20 33)) (.cons (.exp (.met (.loc 0 (p 24 12 16)) 0 (.cons (.loc 1 (p 24 22 26)) .nil) (p 24 12 21) (p 24 12 27)) (p 24 12 27))
  .nil) ⟨23,8,24,27⟩)
  (.cons (.for_ (.nm 2 (p 25 12 15)) .over (.cal 1 .nil (p 25 19 33) (p 25 19 35)) (.cons (.exp (.met (.loc 0 (p 26 12 16)) 3 (.cons (.idx (.loc 2 (p 26 22 25)) (.cint (0) 0 (p 26 26 27)) (p 26 22 28)) (.cons (.idx (.loc 2 (p 26 30 33)) (.cint (1) 0 (p 26 34 35)) (p 26 30 36)) .nil)) (p 26 12 21) (p 26 12 37)) (p 26 12 37))
  .nil) ⟨25,8,26,37⟩)
  .nil))))))
noncomputable def sc2 : Scope := ⟨.function, [(Str.ofString "self", .local), (Str.ofString "text", .local), (Str.ofString "row", .local), (Str.ofString "fixed_atoms", .globalImplicit), (Str.ofString "fixed_functors", .globalImplicit)], false, false, []⟩
noncomputable def fh2 : FnI := ⟨49, "", Str.ofString "Symbols.__init__", sc2, ⟨[], [], none, [], [], none, []⟩, [], ns2, 1, []⟩
noncomputable def ns3 : List String := ["self", "text", "found", "number"]
noncomputable def ir3 : Ss := (.cons (.asg (.nm 2 (p 29 8 13)) (.mb (.att (.loc 0 (p 29 16 20)) 1 (p 29 16 33)) .get (.cons (.loc 1 (p 29 38 42)) (.cons (.neg (.cint (1) 0 (p 29 45 46)) (p 29 44 46)) .nil)) (p 29 16 37) (p 29 16 47)) (p 29 8 47))
  (.cons (.iff (.cmp .GtE (.loc 2 (p 30 11 16)) (.cint (0) 0 (p 30 20 21)) (p 30 11 21)) (.cons (.ret (.loc 2 (p 31 19 24)) (p 31 12 24))
  .nil) .nil ⟨30,8,31,24⟩)
  (.cons (.asg (.nm 3 (p 32 8 14)) (.bi .len (.cons (.att (.loc 0 (p 32 21 25)) 0 (p 32 21 31)) .nil) (p 32 17 20) (p 32 17 32)) (p 32 8 32))
  (.cons (.exp (.mb (.att (.loc 0 (p 33 8 12)) 0 (p 33 8 18)) .append (.cons (.loc 1 (p 33 26 30)) .nil) (p 33 8 25) (p 33 8 31)) (p 33 8 31))
  (.cons (.asgI (.att (.loc 0 (p 34 8 12)) 1 (p 34 8 25)) (.loc 1 (p 34 26 30)) (.loc 3 (p 34 34 40)) (p 34 8 31) (p 34 8 40))
  (.cons (.ret (.loc 3 (p 35 15 21)) (p 35 8 21))
  .nil))))))
noncomputable def sc3 : Scope := ⟨.function, [(Str.ofString "self", .local), (Str.ofString "text", .local), (Str.ofString "found", .local), (Str.ofString "number", .local), (Str.ofString "len", .globalImplicit)], false, false, []⟩
noncomputable def fh3 : FnI := ⟨56, "", Str.ofString "Symbols.atom", sc3, ⟨[], [], none, [], [], none, []⟩, [], ns3, 2, []⟩
noncomputable def ns4 : List String := ["self", "number"]
noncomputable def ir4 : Ss := (.cons (.ret (.idx (.att (.loc 0 (p 38 15 19)) 0 (p 38 15 25)) (.loc 1 (p 38 26 32)) (p 38 15 33)) (p 38 8 33))
  .nil)
noncomputable def sc4 : Scope := ⟨.function, [(Str.ofString "self", .local), (Str.ofString "number", .local)], false, false, []⟩
noncomputable def fh4 : FnI := ⟨63, "", Str.ofString "Symbols.text", sc4, ⟨[], [], none, [], [], none, []⟩, [], ns4, 2, []⟩
noncomputable def ns5 : List String := ["self", "atom", "arity", "key", "found", "number"]
noncomputable def ir5 : Ss := (.cons (.asg (.nm 3 (p 41 8 11)) (.tup (.cons (.loc 1 (p 41 15 19)) (.cons (.loc 2 (p 41 21 26)) .nil)) 0 (p 41 14 27)) (p 41 8 27))
  (.cons (.asg (.nm 4 (p 42 8 13)) (.mb (.att (.loc 0 (p 42 16 20)) 3 (p 42 16 36)) .get (.cons (.loc 3 (p 42 41 44)) (.cons (.neg (.cint (1) 0 (p 42 47 48)) (p 42 46 48)) .nil)) (p 42 16 40) (p 42 16 49)) (p 42 8 49))
  (.cons (.iff (.cmp .GtE (.loc 4 (p 43 11 16)) (.cint (0) 0 (p 43 20 21)) (p 43 11 21)) (.cons (.ret (.loc 4 (p 44 19 24)) (p 44 12 24))
  .nil) .nil ⟨43,8,44,24⟩)
  (.cons (.asg (.nm 5 (p 45 8 14)) (.bi .len (.cons (.att (.loc 0 (p 45 21 25)) 2 (p 45 21 34)) .nil) (p 45 17 20) (p 45 17 35)) (p 45 8 35))
  (.cons (.exp (.mb (.att (.loc 0 (p 46 8 12)) 2 (p 46 8 21)) .append (.cons (.loc 3 (p 46 29 32)) .nil) (p 46 8 28) (p 46 8 33)) (p 46 8 33))
  (.cons (.asgI (.att (.loc 0 (p 47 8 12)) 3 (p 47 8 28)) (.loc 3 (p 47 29 32)) (.loc 5 (p 47 36 42)) (p 47 8 33) (p 47 8 42))
  (.cons (.ret (.loc 5 (p 48 15 21)) (p 48 8 21))
  .nil)))))))
noncomputable def sc5 : Scope := ⟨.function, [(Str.ofString "self", .local), (Str.ofString "atom", .local), (Str.ofString "arity", .local), (Str.ofString "key", .local), (Str.ofString "found", .local), (Str.ofString "number", .local), (Str.ofString "len", .globalImplicit)], false, false, []⟩
noncomputable def fh5 : FnI := ⟨70, "", Str.ofString "Symbols.functor", sc5, ⟨[], [], none, [], [], none, []⟩, [], ns5, 3, []⟩
noncomputable def ns6 : List String := ["self", "text", "arity"]
noncomputable def ir6 : Ss := (.cons (.ret (.met (.loc 0 (p 51 15 19)) 2 (.cons (.met (.loc 0 (p 51 28 32)) 0 (.cons (.loc 1 (p 51 38 42)) .nil) (p 51 28 37) (p 51 28 43)) (.cons (.loc 2 (p 51 45 50)) .nil)) (p 51 15 27) (p 51 15 51)) (p 51 8 51))
  .nil)
noncomputable def sc6 : Scope := ⟨.function, [(Str.ofString "self", .local), (Str.ofString "text", .local), (Str.ofString "arity", .local)], false, false, []⟩
noncomputable def fh6 : FnI := ⟨77, "", Str.ofString "Symbols.func", sc6, ⟨[], [], none, [], [], none, []⟩, [], ns6, 3, []⟩
noncomputable def ns7 : List String := ["self", "functor"]
noncomputable def ir7 : Ss := (.cons (.ret (.idx (.idx (.att (.loc 0 (p 54 15 19)) 2 (p 54 15 28)) (.loc 1 (p 54 29 36)) (p 54 15 37)) (.cint (0) 0 (p 54 38 39)) (p 54 15 40)) (p 54 8 40))
  .nil)
noncomputable def sc7 : Scope := ⟨.function, [(Str.ofString "self", .local), (Str.ofString "functor", .local)], false, false, []⟩
noncomputable def fh7 : FnI := ⟨84, "", Str.ofString "Symbols.name", sc7, ⟨[], [], none, [], [], none, []⟩, [], ns7, 2, []⟩
noncomputable def ns8 : List String := ["self", "functor"]
noncomputable def ir8 : Ss := (.cons (.ret (.idx (.idx (.att (.loc 0 (p 57 15 19)) 2 (p 57 15 28)) (.loc 1 (p 57 29 36)) (p 57 15 37)) (.cint (1) 0 (p 57 38 39)) (p 57 15 40)) (p 57 8 40))
  .nil)
noncomputable def sc8 : Scope := ⟨.function, [(Str.ofString "self", .local), (Str.ofString "functor", .local)], false, false, []⟩
noncomputable def fh8 : FnI := ⟨91, "", Str.ofString "Symbols.arity", sc8, ⟨[], [], none, [], [], none, []⟩, [], ns8, 2, []⟩
noncomputable def ns9 : List String := ["term", "items"]
noncomputable def ir9 : Ss := (.cons (.ownN 1 .nil (p 148 4 9) (p 148 12 14) (p 148 4 14))
  (.cons (.whl (.bool .And (.cons (.cmp .Eq (.idx (.loc 0 (p 149 10 14)) (.cint (0) 0 (p 149 15 16)) (p 149 10 17)) (.cstr "s" 0 (p 149 21 24)) (p 149 10 24)) (.cons (.cmp .Eq (.idx (.loc 0 (p 149 29 33)) (.cint (1) 0 (p 149 34 35)) (p 149 29 36)) (.gv 4 (p 149 40 45)) (p 149 29 45)) .nil)) (p 149 10 45)) (.cons (.ownA 1 (.idx (.idx (.loc 0 (p 150 21 25)) (.cint (2) 0 (p 150 26 27)) (p 150 21 28)) (.cint (0) 0 (p 150 29 30)) (p 150 21 31)) (p 150 8 13) (p 150 8 20) (p 150 8 32) (p 150 8 32))
  (.cons (.asg (.nm 0 (p 151 8 12)) (.idx (.idx (.loc 0 (p 151 15 19)) (.cint (2) 0 (p 151 20 21)) (p 151 15 22)) (.cint (1) 0 (p 151 23 24)) (p 151 15 25)) (p 151 8 25))
  .nil)) ⟨149,4,151,25⟩)
  (.cons (.frz 1)
  (.cons (.ret (.tup (.cons (.loc 1 (p 152 12 17)) (.cons (.loc 0 (p 152 19 23)) .nil)) 0 (p 152 11 24)) (p 152 4 24))
  .nil))))
noncomputable def sc9 : Scope := ⟨.function, [(Str.ofString "term", .local), (Str.ofString "items", .local), (Str.ofString "F_DOT", .globalImplicit)], false, false, []⟩
noncomputable def fh9 : FnI := ⟨228, "list_items", Str.ofString "list_items", sc9, ⟨[], [], none, [], [], none, []⟩, [], ns9, 1, []⟩
noncomputable def ns10 : List String := ["code"]
noncomputable def ir10 : Ss := (.cons (.ret (.bool .And (.cons (.cmp .LtE (.cint (48) 0 (p 155 11 13)) (.loc 0 (p 155 17 21)) (p 155 11 21)) (.cons (.cmp .LtE (.loc 0 (p 155 26 30)) (.cint (57) 0 (p 155 34 36)) (p 155 26 36)) .nil)) (p 155 11 36)) (p 155 4 36))
  .nil)
noncomputable def sc10 : Scope := ⟨.function, [(Str.ofString "code", .local)], false, false, []⟩
noncomputable def fh10 : FnI := ⟨235, "is_digit", Str.ofString "is_digit", sc10, ⟨[], [], none, [], [], none, []⟩, [], ns10, 1, []⟩
noncomputable def ns11 : List String := ["code"]
noncomputable def ir11 : Ss := (.cons (.ret (.bool .And (.cons (.cmp .LtE (.cint (97) 0 (p 157 11 13)) (.loc 0 (p 157 17 21)) (p 157 11 21)) (.cons (.cmp .LtE (.loc 0 (p 157 26 30)) (.cint (122) 0 (p 157 34 37)) (p 157 26 37)) .nil)) (p 157 11 37)) (p 157 4 37))
  .nil)
noncomputable def sc11 : Scope := ⟨.function, [(Str.ofString "code", .local)], false, false, []⟩
noncomputable def fh11 : FnI := ⟨242, "is_small", Str.ofString "is_small", sc11, ⟨[], [], none, [], [], none, []⟩, [], ns11, 1, []⟩
noncomputable def ns12 : List String := ["code"]
noncomputable def ir12 : Ss := (.cons (.ret (.bool .And (.cons (.cmp .LtE (.cint (65) 0 (p 159 11 13)) (.loc 0 (p 159 17 21)) (p 159 11 21)) (.cons (.cmp .LtE (.loc 0 (p 159 26 30)) (.cint (90) 0 (p 159 34 36)) (p 159 26 36)) .nil)) (p 159 11 36)) (p 159 4 36))
  .nil)
noncomputable def sc12 : Scope := ⟨.function, [(Str.ofString "code", .local)], false, false, []⟩
noncomputable def fh12 : FnI := ⟨249, "is_capital", Str.ofString "is_capital", sc12, ⟨[], [], none, [], [], none, []⟩, [], ns12, 1, []⟩
noncomputable def ns13 : List String := ["code"]
noncomputable def ir13 : Ss := (.cons (.ret (.bool .Or (.cons (.cal 11 (.cons (.loc 0 (p 161 20 24)) .nil) (p 161 11 19) (p 161 11 25)) (.cons (.cal 12 (.cons (.loc 0 (p 161 40 44)) .nil) (p 161 29 39) (p 161 29 45)) (.cons (.cal 10 (.cons (.loc 0 (p 161 58 62)) .nil) (p 161 49 57) (p 161 49 63)) (.cons (.cmp .Eq (.loc 0 (p 161 68 72)) (.cint (95) 0 (p 161 76 78)) (p 161 68 78)) .nil)))) (p 161 11 79)) (p 161 4 79))
  .nil)
noncomputable def sc13 : Scope := ⟨.function, [(Str.ofString "code", .local), (Str.ofString "is_small", .globalImplicit), (Str.ofString "is_capital", .globalImplicit), (Str.ofString "is_digit", .globalImplicit)], false, false, []⟩
noncomputable def fh13 : FnI := ⟨256, "is_alnum", Str.ofString "is_alnum", sc13, ⟨[], [], none, [], [], none, []⟩, [], ns13, 1, []⟩
noncomputable def ns14 : List String := ["code"]
noncomputable def ir14 : Ss := (.cons (.ret (.bool .And (.cons (.cmp .LtE (.cint (0) 0 (p 163 11 12)) (.loc 0 (p 163 16 20)) (p 163 11 20)) (.cons (.cmp .Lt (.loc 0 (p 163 25 29)) (.cint (128) 0 (p 163 32 35)) (p 163 25 35)) (.cons (.cmp .In (.bi .chr (.cons (.loc 0 (p 163 45 49)) .nil) (p 163 41 44) (p 163 41 50)) (.cstr "+-*/\\^<>=~:.?@#&$" 0 (p 163 54 74)) (p 163 41 74)) .nil))) (p 163 11 75)) (p 163 4 75))
  .nil)
noncomputable def sc14 : Scope := ⟨.function, [(Str.ofString "code", .local), (Str.ofString "chr", .globalImplicit)], false, false, []⟩
noncomputable def fh14 : FnI := ⟨263, "is_symbol", Str.ofString "is_symbol", sc14, ⟨[], [], none, [], [], none, []⟩, [], ns14, 1, []⟩
noncomputable def ns15 : List String := ["text", "char"]
noncomputable def ir15 : Ss := (.cons (.iff (.bool .Or (.cons (.cmp .Eq (.loc 0 (p 175 7 11)) (.cstr "" 0 (p 175 15 17)) (p 175 7 17)) (.cons (.not (.cal 11 (.cons (.bi .ord (.cons (.idx (.loc 0 (p 175 38 42)) (.cint (0) 0 (p 175 43 44)) (p 175 38 45)) .nil) (p 175 34 37) (p 175 34 46)) .nil) (p 175 25 33) (p 175 25 47)) (p 175 21 47)) .nil)) (p 175 7 47)) (.cons (.ret (.cboo false 0 (p 176 15 20)) (p 176 8 20))
  .nil) .nil ⟨175,4,176,20⟩)
  (.cons (.for_ (.nm 1 (p 177 8 12)) .over (.loc 0 (p 177 16 20)) (.cons (.iff (.not (.cal 13 (.cons (.bi .ord (.cons (.loc 1 (p 178 28 32)) .nil) (p 178 24 27) (p 178 24 33)) .nil) (p 178 15 23) (p 178 15 34)) (p 178 11 34)) (.cons (.ret (.cboo false 0 (p 179 19 24)) (p 179 12 24))
  .nil) .nil ⟨178,8,179,24⟩)
  .nil) ⟨177,4,179,24⟩)
  (.cons (.ret (.cboo true 0 (p 180 11 15)) (p 180 4 15))
  .nil)))
noncomputable def sc15 : Scope := ⟨.function, [(Str.ofString "text", .local), (Str.ofString "char", .local), (Str.ofString "is_small", .globalImplicit), (Str.ofString "ord", .globalImplicit), (Str.ofString "is_alnum", .globalImplicit)], false, false, []⟩
noncomputable def fh15 : FnI := ⟨277, "is_alnum_name", Str.ofString "is_alnum_name", sc15, ⟨[], [], none, [], [], none, []⟩, [], ns15, 1, []⟩
noncomputable def ns16 : List String := ["text", "char"]
noncomputable def ir16 : Ss := (.cons (.iff (.cmp .Eq (.loc 0 (p 182 7 11)) (.cstr "" 0 (p 182 15 17)) (p 182 7 17)) (.cons (.ret (.cboo false 0 (p 183 15 20)) (p 183 8 20))
  .nil) .nil ⟨182,4,183,20⟩)
  (.cons (.for_ (.nm 1 (p 184 8 12)) .over (.loc 0 (p 184 16 20)) (.cons (.iff (.not (.cal 14 (.cons (.bi .ord (.cons (.loc 1 (p 185 29 33)) .nil) (p 185 25 28) (p 185 25 34)) .nil) (p 185 15 24) (p 185 15 35)) (p 185 11 35)) (.cons (.ret (.cboo false 0 (p 186 19 24)) (p 186 12 24))
  .nil) .nil ⟨185,8,186,24⟩)
  .nil) ⟨184,4,186,24⟩)
  (.cons (.ret (.cboo true 0 (p 187 11 15)) (p 187 4 15))
  .nil)))
noncomputable def sc16 : Scope := ⟨.function, [(Str.ofString "text", .local), (Str.ofString "char", .local), (Str.ofString "is_symbol", .globalImplicit), (Str.ofString "ord", .globalImplicit)], false, false, []⟩
noncomputable def fh16 : FnI := ⟨284, "is_symbol_name", Str.ofString "is_symbol_name", sc16, ⟨[], [], none, [], [], none, []⟩, [], ns16, 1, []⟩
noncomputable def ns17 : List String := ["text"]
noncomputable def ir17 : Ss := (.cons (.iff (.cmp .In (.loc 0 (p 189 7 11)) (.tup (.cons (.cstr "[]" 0 (p 189 16 20)) (.cons (.cstr "{}" 0 (p 189 22 26)) (.cons (.cstr "!" 0 (p 189 28 31)) (.cons (.cstr ";" 0 (p 189 33 36)) .nil)))) 0 (p 189 15 37)) (p 189 7 37)) (.cons (.ret (.cboo true 0 (p 190 15 19)) (p 190 8 19))
  .nil) .nil ⟨189,4,190,19⟩)
  (.cons (.iff (.cal 15 (.cons (.loc 0 (p 191 21 25)) .nil) (p 191 7 20) (p 191 7 26)) (.cons (.ret (.cboo true 0 (p 192 15 19)) (p 192 8 19))
  .nil) .nil ⟨191,4,192,19⟩)
  (.cons (.ret (.bool .And (.cons (.cal 16 (.cons (.loc 0 (p 193 26 30)) .nil) (p 193 11 25) (p 193 11 31)) (.cons (.cmp .NotEq (.loc 0 (p 193 36 40)) (.cstr "." 0 (p 193 44 47)) (p 193 36 47)) (.cons (.not (.mb (.loc 0 (p 193 57 61)) .startswith (.cons (.cstr "/*" 0 (p 193 73 77)) .nil) (p 193 57 72) (p 193 57 78)) (p 193 53 78)) .nil))) (p 193 11 79)) (p 193 4 79))
  .nil)))
noncomputable def sc17 : Scope := ⟨.function, [(Str.ofString "text", .local), (Str.ofString "is_alnum_name", .globalImplicit), (Str.ofString "is_symbol_name", .globalImplicit)], false, false, []⟩
noncomputable def fh17 : FnI := ⟨291, "is_plain_name", Str.ofString "is_plain_name", sc17, ⟨[], [], none, [], [], none, []⟩, [], ns17, 1, []⟩
noncomputable def ns18 : List String := ["type_text"]
noncomputable def ir18 : Ss := (.cons (.iff (.cmp .In (.loc 0 (p 78 7 16)) (.gv 8 (p 78 20 32)) (p 78 7 32)) (.cons (.ret (.cstr "prefix" 0 (p 79 15 23)) (p 79 8 23))
  .nil) .nil ⟨78,4,79,23⟩)
  (.cons (.iff (.cmp .In (.loc 0 (p 80 7 16)) (.gv 9 (p 80 20 31)) (p 80 7 31)) (.cons (.ret (.cstr "infix" 0 (p 81 15 22)) (p 81 8 22))
  .nil) .nil ⟨80,4,81,22⟩)
  (.cons (.iff (.cmp .In (.loc 0 (p 82 7 16)) (.gv 10 (p 82 20 33)) (p 82 7 33)) (.cons (.ret (.cstr "postfix" 0 (p 83 15 24)) (p 83 8 24))
  .nil) .nil ⟨82,4,83,24⟩)
  (.cons (.ret (.cnon 0 (p 84 11 15)) (p 84 4 15))
  .nil))))
noncomputable def sc18 : Scope := ⟨.function, [(Str.ofString "type_text", .local), (Str.ofString "PREFIX_TYPES", .globalImplicit), (Str.ofString "INFIX_TYPES", .globalImplicit), (Str.ofString "POSTFIX_TYPES", .globalImplicit)], false, false, []⟩
noncomputable def fh18 : FnI := ⟨143, "fixity", Str.ofString "fixity", sc18, ⟨[], [], none, [], [], none, []⟩, [], ns18, 1, []⟩
noncomputable def ns19 : List String := ["priority", "type_text", "lower"]
noncomputable def ir19 : Ss := (.cons (.asg (.nm 2 (p 86 4 9)) (.bin .sub (.loc 0 (p 86 12 20)) (.cint (1) 0 (p 86 23 24)) (p 86 12 24)) (p 86 4 24))
  (.cons (.iff (.cmp .Eq (.loc 1 (p 87 7 16)) (.cstr "fx" 0 (p 87 20 24)) (p 87 7 24)) (.cons (.ret (.tup (.cons (.cint (0) 0 (p 88 16 17)) (.cons (.loc 2 (p 88 19 24)) .nil)) 0 (p 88 15 25)) (p 88 8 25))
  .nil) .nil ⟨87,4,88,25⟩)
  (.cons (.iff (.cmp .Eq (.loc 1 (p 89 7 16)) (.cstr "fy" 0 (p 89 20 24)) (p 89 7 24)) (.cons (.ret (.tup (.cons (.cint (0) 0 (p 90 16 17)) (.cons (.loc 0 (p 90 19 27)) .nil)) 0 (p 90 15 28)) (p 90 8 28))
  .nil) .nil ⟨89,4,90,28⟩)
  (.cons (.iff (.cmp .Eq (.loc 1 (p 91 7 16)) (.cstr "xf" 0 (p 91 20 24)) (p 91 7 24)) (.cons (.ret (.tup (.cons (.loc 2 (p 92 16 21)) (.cons (.cint (0) 0 (p 92 23 24)) .nil)) 0 (p 92 15 25)) (p 92 8 25))
  .nil) .nil ⟨91,4,92,25⟩)
  (.cons (.iff (.cmp .Eq (.loc 1 (p 93 7 16)) (.cstr "yf" 0 (p 93 20 24)) (p 93 7 24)) (.cons (.ret (.tup (.cons (.loc 0 (p 94 16 24)) (.cons (.cint (0) 0 (p 94 26 27)) .nil)) 0 (p 94 15 28)) (p 94 8 28))
  .nil) .nil ⟨93,4,94,28⟩)
  (.cons (.iff (.cmp .Eq (.loc 1 (p 95 7 16)) (.cstr "xfy" 0 (p 95 20 25)) (p 95 7 25)) (.cons (.ret (.tup (.cons (.loc 2 (p 96 16 21)) (.cons (.loc 0 (p 96 23 31)) .nil)) 0 (p 96 15 32)) (p 96 8 32))
  .nil) .nil ⟨95,4,96,32⟩)
  (.cons (.iff (.cmp .Eq (.loc 1 (p 97 7 16)) (.cstr "yfx" 0 (p 97 20 25)) (p 97 7 25)) (.cons (.ret (.tup (.cons (.loc 0 (p 98 16 24)) (.cons (.loc 2 (p 98 26 31)) .nil)) 0 (p 98 15 32)) (p 98 8 32))
  .nil) .nil ⟨97,4,98,32⟩)
  (.cons (.ret (.tup (.cons (.loc 2 (p 99 12 17)) (.cons (.loc 2 (p 99 19 24)) .nil)) 0 (p 99 11 25)) (p 99 4 25))
  .nil))))))))
noncomputable def sc19 : Scope := ⟨.function, [(Str.ofString "priority", .local), (Str.ofString "type_text", .local), (Str.ofString "lower", .local)], false, false, []⟩
noncomputable def fh19 : FnI := ⟨150, "bounds", Str.ofString "bounds", sc19, ⟨[], [], none, [], [], none, []⟩, [], ns19, 2, []⟩
noncomputable def ns20 : List String := ["self", "symbols", "standard", "priority", "type_text", "names", "name"]
noncomputable def ir20 : Ss := (.cons (.asgA (.loc 0 (p 103 8 12)) 4 (.loc 1 (p 103 23 30)) (p 103 8 20) (p 103 8 30))
  (.cons (.asgA (.loc 0 (p 104 8 12)) 5 (.newd (p 104 24 26)) (p 104 8 21) (p 104 8 26))
  (.cons (.asgA (.loc 0 (p 105 8 12)) 6 (.newd (p 105 23 25)) (p 105 8 20) (p 105 8 25))
  (.cons (.asgA (.loc 0 (p 106 8 12)) 7 (.newd (p 106 25 27)) (p 106 8 22) (p 106 8 27))
  (.cons (.exp (.met (.loc 0 (p 107 8 12)) 11 (.cons (.gv 7 (p 107 17 31)) (.cons (.cstr "xfy" 0 (p 107 33 38)) (.cons (.gv 2 (p 107 40 47)) .nil))) (p 107 8 16) (p 107 8 48)) (p 107 8 48))
  (.cons (.iff (.loc 2 (p 108 11 19)) (.cons (.bad (.For (.Tuple [(.Name (Str.ofString "priority") (p 109 16 24)), (.Name (Str.ofString "type_text") (p 109 26 35)), (.Name (Str.ofString "names") (p 109 37 42))] 0 (p 109 16 42)) (.Call (.Name (Str.ofString "standard_rows") (p 109 46 59)) [] [] (p 109 46 61)) [(.For (.Name (Str.ofString "name") (p 110 20 24)) (.Name (Str.ofString "names") (p 110 28 33)) [(.Expr (.Call (.Attribute (.Name (Str.ofString "self") (p 111 20 24)) (Str.ofString "add") (p 111 20 28)) [(.Name (Str.ofString "priority") (p 111 29 37)), (.Name (Str.ofString "type_text") (p 111 39 48)), (.Call (.Attribute (.Name (Str.ofString "symbols") (p 111 50 57)) (Str.ofString "atom") (p 111 50 62)) [(.Name (Str.ofString "name") (p 111 63 67))] [] (p 111 50 68))] [] (p 111 20 69)) (p 111 20 69))] [] ⟨110,16,111,69⟩)] [] ⟨109,12,111,69⟩))
  .nil) .nil ⟨108,8,111,69⟩)
  .nil))))))
noncomputable def sc20 : Scope := ⟨.function, [(Str.ofString "self", .local), (Str.ofString "symbols", .local), (Str.ofString "standard", .local), (Str.ofString "priority", .local), (Str.ofString "type_text", .local), (Str.ofString "names", .local), (Str.ofString "name", .local), (Str.ofString "COMMA_PRIORITY", .globalImplicit), (Str.ofString "A_COMMA", .globalImplicit), (Str.ofString "standard_rows", .globalImplicit)], false, false, []⟩
noncomputable def fh20 : FnI := ⟨165, "", Str.ofString "OperatorTable.__init__", sc20, ⟨[], [], none, [], [], none, []⟩, [], ns20, 3, [(.boo true)]⟩
noncomputable def ns21 : List String := ["self", "a"]
noncomputable def ir21 : Ss := (.cons (.ret (.mb (.att (.loc 0 (p 114 15 19)) 5 (p 114 15 28)) .get (.cons (.loc 1 (p 114 33 34)) .nil) (p 114 15 32) (p 114 15 35)) (p 114 8 35))
  .nil)
noncomputable def sc21 : Scope := ⟨.function, [(Str.ofString "self", .local), (Str.ofString "a", .local)], false, false, []⟩
noncomputable def fh21 : FnI := ⟨172, "", Str.ofString "OperatorTable.prefix", sc21, ⟨[], [], none, [], [], none, []⟩, [], ns21, 2, []⟩
noncomputable def ns22 : List String := ["self", "a"]
noncomputable def ir22 : Ss := (.cons (.ret (.mb (.att (.loc 0 (p 117 15 19)) 6 (p 117 15 27)) .get (.cons (.loc 1 (p 117 32 33)) .nil) (p 117 15 31) (p 117 15 34)) (p 117 8 34))
  .nil)
noncomputable def sc22 : Scope := ⟨.function, [(Str.ofString "self", .local), (Str.ofString "a", .local)], false, false, []⟩
noncomputable def fh22 : FnI := ⟨179, "", Str.ofString "OperatorTable.infix", sc22, ⟨[], [], none, [], [], none, []⟩, [], ns22, 2, []⟩
noncomputable def ns23 : List String := ["self", "a"]
noncomputable def ir23 : Ss := (.cons (.ret (.mb (.att (.loc 0 (p 120 15 19)) 7 (p 120 15 29)) .get (.cons (.loc 1 (p 120 34 35)) .nil) (p 120 15 33) (p 120 15 36)) (p 120 8 36))
  .nil)
noncomputable def sc23 : Scope := ⟨.function, [(Str.ofString "self", .local), (Str.ofString "a", .local)], false, false, []⟩
noncomputable def fh23 : FnI := ⟨186, "", Str.ofString "OperatorTable.postfix", sc23, ⟨[], [], none, [], [], none, []⟩, [], ns23, 2, []⟩
noncomputable def ns24 : List String := ["self", "a"]
noncomputable def ir24 : Ss := (.cons (.ret (.bool .Or (.cons (.cmp .In (.loc 1 (p 123 15 16)) (.att (.loc 0 (p 123 20 24)) 5 (p 123 20 33)) (p 123 15 33)) (.cons (.cmp .In (.loc 1 (p 123 37 38)) (.att (.loc 0 (p 123 42 46)) 6 (p 123 42 54)) (p 123 37 54)) (.cons (.cmp .In (.loc 1 (p 123 58 59)) (.att (.loc 0 (p 123 63 67)) 7 (p 123 63 77)) (p 123 58 77)) .nil))) (p 123 15 77)) (p 123 8 77))
  .nil)
noncomputable def sc24 : Scope := ⟨.function, [(Str.ofString "self", .local), (Str.ofString "a", .local)], false, false, []⟩
noncomputable def fh24 : FnI := ⟨193, "", Str.ofString "OperatorTable.is_operator", sc24, ⟨[], [], none, [], [], none, []⟩, [], ns24, 2, []⟩
noncomputable def ns25 : List String := ["self", "type_text", "kind"]
noncomputable def ir25 : Ss := (.cons (.asg (.nm 2 (p 126 8 12)) (.cal 18 (.cons (.loc 1 (p 126 22 31)) .nil) (p 126 15 21) (p 126 15 32)) (p 126 8 32))
  (.cons (.iff (.cmp .Eq (.loc 2 (p 127 11 15)) (.cstr "prefix" 0 (p 127 19 27)) (p 127 11 27)) (.cons (.ret (.att (.loc 0 (p 128 19 23)) 5 (p 128 19 32)) (p 128 12 32))
  .nil) .nil ⟨127,8,128,32⟩)
  (.cons (.iff (.cmp .Eq (.loc 2 (p 129 11 15)) (.cstr "infix" 0 (p 129 19 26)) (p 129 11 26)) (.cons (.ret (.att (.loc 0 (p 130 19 23)) 6 (p 130 19 31)) (p 130 12 31))
  .nil) .nil ⟨129,8,130,31⟩)
  (.cons (.ret (.att (.loc 0 (p 131 15 19)) 7 (p 131 15 29)) (p 131 8 29))
  .nil))))
noncomputable def sc25 : Scope := ⟨.function, [(Str.ofString "self", .local), (Str.ofString "type_text", .local), (Str.ofString "kind", .local), (Str.ofString "fixity", .globalImplicit)], false, false, []⟩
noncomputable def fh25 : FnI := ⟨200, "", Str.ofString "OperatorTable.table_of", sc25, ⟨[], [], none, [], [], none, []⟩, [], ns25, 2, []⟩
noncomputable def ns26 : List String := ["self", "priority", "type_text", "a", "table"]
noncomputable def ir26 : Ss := (.cons (.asg (.nm 4 (p 134 8 13)) (.met (.loc 0 (p 134 16 20)) 10 (.cons (.loc 2 (p 134 30 39)) .nil) (p 134 16 29) (p 134 16 40)) (p 134 8 40))
  (.cons (.iff (.cmp .Gt (.loc 1 (p 135 11 19)) (.cint (0) 0 (p 135 22 23)) (p 135 11 23)) (.cons (.asgI (.loc 4 (p 136 12 17)) (.loc 3 (p 136 18 19)) (.tup (.cons (.loc 1 (p 136 24 32)) (.cons (.loc 2 (p 136 34 43)) .nil)) 0 (p 136 23 44)) (p 136 12 20) (p 136 12 44))
  .nil) (.cons (.iff (.cmp .In (.loc 3 (p 137 13 14)) (.loc 4 (p 137 18 23)) (p 137 13 23)) (.cons (.delI (.loc 4 (p 138 16 21)) (.loc 3 (p 138 22 23)) (p 138 16 24) (p 138 12 24))
  .nil) .nil ⟨137,8,138,24⟩)
  .nil) ⟨135,8,138,24⟩)
  .nil))
noncomputable def sc26 : Scope := ⟨.function, [(Str.ofString "self", .local), (Str.ofString "priority", .local), (Str.ofString "type_text", .local), (Str.ofString "a", .local), (Str.ofString "table", .local)], false, false, []⟩
noncomputable def fh26 : FnI := ⟨207, "", Str.ofString "OperatorTable.add", sc26, ⟨[], [], none, [], [], none, []⟩, [], ns26, 4, []⟩
noncomputable def ns27 : List String := ["symbols", "a", "quoted", "text"]
noncomputable def ir27 : Ss := (.cons (.asg (.nm 3 (p 213 4 8)) (.met (.loc 0 (p 213 11 18)) 1 (.cons (.loc 1 (p 213 24 25)) .nil) (p 213 11 23) (p 213 11 26)) (p 213 4 26))
  (.cons (.iff (.bool .And (.cons (.loc 2 (p 214 7 13)) (.cons (.not (.cal 17 (.cons (.loc 3 (p 214 37 41)) .nil) (p 214 23 36) (p 214 23 42)) (p 214 19 42)) .nil)) (p 214 7 43)) (.cons (.ret (.cal 51 (.cons (.loc 3 (p 215 27 31)) .nil) (p 215 15 26) (p 215 15 32)) (p 215 8 32))
  .nil) .nil ⟨214,4,215,32⟩)
  (.cons (.ret (.loc 3 (p 216 11 15)) (p 216 4 15))
  .nil)))
noncomputable def sc27 : Scope := ⟨.function, [(Str.ofString "symbols", .local), (Str.ofString "a", .local), (Str.ofString "quoted", .local), (Str.ofString "text", .local), (Str.ofString "is_plain_name", .globalImplicit), (Str.ofString "quoted_text", .globalImplicit)], false, false, []⟩
noncomputable def fh27 : FnI := ⟨313, "atom_text", Str.ofString "atom_text", sc27, ⟨[], [], none, [], [], none, []⟩, [], ns27, 3, [(.boo true)]⟩
noncomputable def ns28 : List String := ["char", "code"]
noncomputable def ir28 : Ss := (.cons (.asg (.nm 1 (p 223 4 8)) (.bi .ord (.cons (.loc 0 (p 223 15 19)) .nil) (p 223 11 14) (p 223 11 20)) (p 223 4 20))
  (.cons (.ret (.bool .Or (.cons (.cal 13 (.cons (.loc 1 (p 224 20 24)) .nil) (p 224 11 19) (p 224 11 25)) (.cons (.cmp .GtE (.loc 1 (p 224 29 33)) (.cint (128) 0 (p 224 37 40)) (p 224 29 40)) .nil)) (p 224 11 40)) (p 224 4 40))
  .nil))
noncomputable def sc28 : Scope := ⟨.function, [(Str.ofString "char", .local), (Str.ofString "code", .local), (Str.ofString "ord", .globalImplicit), (Str.ofString "is_alnum", .globalImplicit)], false, false, []⟩
noncomputable def fh28 : FnI := ⟨327, "is_word", Str.ofString "is_word", sc28, ⟨[], [], none, [], [], none, []⟩, [], ns28, 1, []⟩
noncomputable def ns29 : List String := ["text"]
noncomputable def ir29 : Ss := (.cons (.ret (.bool .Or (.cons (.cmp .Eq (.loc 0 (p 226 11 15)) (.cstr ";" 0 (p 226 19 22)) (p 226 11 22)) (.cons (.cmp .Eq (.loc 0 (p 226 26 30)) (.cstr "!" 0 (p 226 34 37)) (p 226 26 37)) (.cons (.cal 16 (.cons (.loc 0 (p 226 56 60)) .nil) (p 226 41 55) (p 226 41 61)) .nil))) (p 226 11 61)) (p 226 4 61))
  .nil)
noncomputable def sc29 : Scope := ⟨.function, [(Str.ofString "text", .local), (Str.ofString "is_symbol_name", .globalImplicit)], false, false, []⟩
noncomputable def fh29 : FnI := ⟨334, "is_tight", Str.ofString "is_tight", sc29, ⟨[], [], none, [], [], none, []⟩, [], ns29, 1, []⟩
noncomputable def ns30 : List String := ["self", "symbols", "operators", "quoted", "ignore_ops", "numbervars", "names", "k", "text"]
noncomputable def ir30 : Ss := (.cons (.asgA (.loc 0 (p 230 8 12)) 4 (.loc 1 (p 230 23 30)) (p 230 8 20) (p 230 8 30))
  (.cons (.asgA (.loc 0 (p 231 8 12)) 8 (.loc 2 (p 231 25 34)) (p 231 8 22) (p 231 8 34))
  (.cons (.asgA (.loc 0 (p 232 8 12)) 9 (.loc 3 (p 232 22 28)) (p 232 8 19) (p 232 8 28))
  (.cons (.asgA (.loc 0 (p 233 8 12)) 10 (.loc 4 (p 233 26 36)) (p 233 8 23) (p 233 8 36))
  (.cons (.asgA (.loc 0 (p 234 8 12)) 11 (.loc 5 (p 234 26 36)) (p 234 8 23) (p 234 8 36))
  (.cons (.asgA (.loc 0 (p 235 8 12)) 12 (.newd (p 235 21 23)) (p 235 8 18) (p 235 8 23))
  (.cons (.asgA (.loc 0 (p 236 8 12)) 13 (.newd (p 236 21 23)) (p 236 8 18) (p 236 8 23))
  (.cons (.iff (.cmp .IsNot (.loc 6 (p 237 11 16)) (.cnon 0 (p 237 24 28)) (p 237 11 28)) (.cons (.bad (.For (.Tuple [(.Name (Str.ofString "k") (p 238 16 17)), (.Name (Str.ofString "text") (p 238 19 23))] 0 (p 238 16 23)) (.Call (.Attribute (.Name (Str.ofString "names") (p 238 27 32)) (Str.ofString "items") (p 238 27 38)) [] [] (p 238 27 40)) [(.Assign [(.Subscript (.Attribute (.Name (Str.ofString "self") (p 239 16 20)) (Str.ofString "names") (p 239 16 26)) (.Name (Str.ofString "k") (p 239 27 28)) (p 239 16 29))] (.Name (Str.ofString "text") (p 239 32 36)) (p 239 16 36)), (.Assign [(.Subscript (.Attribute (.Name (Str.ofString "self") (p 240 16 20)) (Str.ofString "taken") (p 240 16 26)) (.Name (Str.ofString "text") (p 240 27 31)) (p 240 16 32))] (.Constant (.bool true) 0 (p 240 35 39)) (p 240 16 39))] [] ⟨238,12,240,39⟩))
  .nil) .nil ⟨237,8,240,39⟩)
  (.cons (.asgA (.loc 0 (p 241 8 12)) 14 (.newl (p 241 19 21)) (p 241 8 16) (p 241 8 21))
  (.cons (.asgA (.loc 0 (p 242 8 12)) 15 (.cstr "" 0 (p 242 20 22)) (p 242 8 17) (p 242 8 22))
  (.cons (.asgA (.loc 0 (p 243 8 12)) 16 (.cboo false 0 (p 243 24 29)) (p 243 8 21) (p 243 8 29))
  (.cons (.asgA (.loc 0 (p 244 8 12)) 17 (.newl (p 244 20 22)) (p 244 8 17) (p 244 8 22))
  .nil))))))))))))
noncomputable def sc30 : Scope := ⟨.function, [(Str.ofString "self", .local), (Str.ofString "symbols", .local), (Str.ofString "operators", .local), (Str.ofString "quoted", .local), (Str.ofString "ignore_ops", .local), (Str.ofString "numbervars", .local), (Str.ofString "names", .local), (Str.ofString "k", .local), (Str.ofString "text", .local)], false, false, []⟩
noncomputable def fh30 : FnI := ⟨349, "", Str.ofString "Writer.__init__", sc30, ⟨[], [], none, [], [], none, []⟩, [], ns30, 7, [(.boo true), (.boo false), (.boo false), (.non)]⟩
noncomputable def ns31 : List String := ["self", "term", "most", "kind", "item", "limit", "alone"]
noncomputable def ir31 : Ss := (.cons (.asgA (.loc 0 (p 247 8 12)) 14 (.newl (p 247 19 21)) (p 247 8 16) (p 247 8 21))
  (.cons (.asgA (.loc 0 (p 248 8 12)) 15 (.cstr "" 0 (p 248 20 22)) (p 248 8 17) (p 248 8 22))
  (.cons (.asgA (.loc 0 (p 249 8 12)) 16 (.cboo false 0 (p 249 24 29)) (p 249 8 21) (p 249 8 29))
  (.cons (.asgA (.loc 0 (p 250 8 12)) 17 (.newls (.cons (.tup (.cons (.cstr "term" 0 (p 250 22 28)) (.cons (.loc 1 (p 250 30 34)) (.cons (.loc 2 (p 250 36 40)) (.cons (.cmp .GtE (.loc 2 (p 250 42 46)) (.gv 11 (p 250 50 64)) (p 250 42 64)) .nil)))) 0 (p 250 21 65)) .nil) (p 250 20 66)) (p 250 8 17) (p 250 8 66))
  (.cons (.whl (.att (.loc 0 (p 251 14 18)) 17 (p 251 14 23)) (.cons (.asg (.tp [(3, (p 252 12 16)), (4, (p 252 18 22)), (5, (p 252 24 29)), (6, (p 252 31 36))] 0 (p 252 12 36)) (.mb (.att (.loc 0 (p 252 39 43)) 17 (p 252 39 48)) .pop .nil (p 252 39 52) (p 252 39 54)) (p 252 12 54))
  (.cons (.iff (.cmp .Eq (.loc 3 (p 253 15 19)) (.cstr "term" 0 (p 253 23 29)) (p 253 15 29)) (.cons (.exp (.met (.loc 0 (p 254 16 20)) 16 (.cons (.loc 4 (p 254 27 31)) (.cons (.loc 5 (p 254 33 38)) (.cons (.loc 6 (p 254 40 45)) .nil))) (p 254 16 26) (p 254 16 46)) (p 254 16 46))
  .nil) (.cons (.iff (.cmp .Eq (.loc 3 (p 255 17 21)) (.cstr "infix" 0 (p 255 25 32)) (p 255 17 32)) (.cons (.exp (.met (.loc 0 (p 256 16 20)) 26 (.cons (.loc 4 (p 256 36 40)) .nil) (p 256 16 35) (p 256 16 41)) (p 256 16 41))
  .nil) (.cons (.iff (.cmp .Eq (.loc 3 (p 257 17 21)) (.cstr "postfix" 0 (p 257 25 34)) (p 257 17 34)) (.cons (.exp (.met (.loc 0 (p 258 16 20)) 27 (.cons (.loc 4 (p 258 38 42)) .nil) (p 258 16 37) (p 258 16 43)) (p 258 16 43))
  .nil) (.cons (.exp (.met (.loc 0 (p 260 16 20)) 12 (.cons (.loc 4 (p 260 25 29)) .nil) (p 260 16 24) (p 260 16 30)) (p 260 16 30))
  .nil) ⟨257,12,260,30⟩)
  .nil) ⟨255,12,260,30⟩)
  .nil) ⟨253,12,260,30⟩)
  .nil)) ⟨251,8,260,30⟩)
  (.cons (.ret (.mb (.cstr "" 0 (p 261 15 17)) .join (.cons (.att (.loc 0 (p 261 23 27)) 14 (p 261 23 31)) .nil) (p 261 15 22) (p 261 15 32)) (p 261 8 32))
  .nil))))))
noncomputable def sc31 : Scope := ⟨.function, [(Str.ofString "self", .local), (Str.ofString "term", .local), (Str.ofString "most", .local), (Str.ofString "kind", .local), (Str.ofString "item", .local), (Str.ofString "limit", .local), (Str.ofString "alone", .local), (Str.ofString "WHOLE_PRIORITY", .globalImplicit)], false, false, []⟩
noncomputable def fh31 : FnI := ⟨357, "", Str.ofString "Writer.text", sc31, ⟨[], [], none, [], [], none, []⟩, [], ns31, 3, [(.int (1201))]⟩
noncomputable def ns32 : List String := ["self", "text"]
noncomputable def ir32 : Ss := (.cons (.iff (.cmp .NotEq (.loc 1 (p 264 11 15)) (.cstr "" 0 (p 264 19 21)) (p 264 11 21)) (.cons (.exp (.mb (.att (.loc 0 (p 265 12 16)) 14 (p 265 12 20)) .append (.cons (.loc 1 (p 265 28 32)) .nil) (p 265 12 27) (p 265 12 33)) (p 265 12 33))
  (.cons (.asgA (.loc 0 (p 266 12 16)) 15 (.idx (.loc 1 (p 266 24 28)) (.bin .sub (.bi .len (.cons (.loc 1 (p 266 33 37)) .nil) (p 266 29 32) (p 266 29 38)) (.cint (1) 0 (p 266 41 42)) (p 266 29 42)) (p 266 24 43)) (p 266 12 21) (p 266 12 43))
  (.cons (.asgA (.loc 0 (p 267 12 16)) 16 (.cboo false 0 (p 267 28 33)) (p 267 12 25) (p 267 12 33))
  .nil))) .nil ⟨264,8,267,33⟩)
  .nil)
noncomputable def sc32 : Scope := ⟨.function, [(Str.ofString "self", .local), (Str.ofString "text", .local), (Str.ofString "len", .globalImplicit)], false, false, []⟩
noncomputable def fh32 : FnI := ⟨364, "", Str.ofString "Writer.raw", sc32, ⟨[], [], none, [], [], none, []⟩, [], ns32, 2, []⟩
noncomputable def ns33 : List String := ["self", "text"]
noncomputable def ir33 : Ss := (.cons (.iff (.cmp .NotEq (.loc 1 (p 270 11 15)) (.cstr "" 0 (p 270 19 21)) (p 270 11 21)) (.cons (.iff (.met (.loc 0 (p 271 15 19)) 14 (.cons (.idx (.loc 1 (p 271 32 36)) (.cint (0) 0 (p 271 37 38)) (p 271 32 39)) .nil) (p 271 15 31) (p 271 15 40)) (.cons (.exp (.mb (.att (.loc 0 (p 272 16 20)) 14 (p 272 16 24)) .append (.cons (.cstr " " 0 (p 272 32 35)) .nil) (p 272 16 31) (p 272 16 36)) (p 272 16 36))
  .nil) .nil ⟨271,12,272,36⟩)
  (.cons (.exp (.met (.loc 0 (p 273 12 16)) 12 (.cons (.loc 1 (p 273 21 25)) .nil) (p 273 12 20) (p 273 12 26)) (p 273 12 26))
  .nil)) .nil ⟨270,8,273,26⟩)
  .nil)
noncomputable def sc33 : Scope := ⟨.function, [(Str.ofString "self", .local), (Str.ofString "text", .local)], false, false, []⟩
noncomputable def fh33 : FnI := ⟨371, "", Str.ofString "Writer.token", sc33, ⟨[], [], none, [], [], none, []⟩, [], ns33, 2, []⟩
noncomputable def ns34 : List String := ["self", "first"]
noncomputable def ir34 : Ss := (.cons (.iff (.bool .Or (.cons (.cmp .Eq (.att (.loc 0 (p 276 11 15)) 15 (p 276 11 20)) (.cstr "" 0 (p 276 24 26)) (p 276 11 26)) (.cons (.cmp .Eq (.att (.loc 0 (p 276 30 34)) 15 (p 276 30 39)) (.cstr " " 0 (p 276 43 46)) (p 276 30 46)) .nil)) (p 276 11 46)) (.cons (.ret (.cboo false 0 (p 277 19 24)) (p 277 12 24))
  .nil) .nil ⟨276,8,277,24⟩)
  (.cons (.iff (.bool .And (.cons (.att (.loc 0 (p 278 11 15)) 16 (p 278 11 24)) (.cons (.bool .Or (.cons (.cmp .Eq (.loc 1 (p 278 30 35)) (.cstr "(" 0 (p 278 39 42)) (p 278 30 42)) (.cons (.bool .And (.cons (.cmp .Eq (.att (.loc 0 (p 278 47 51)) 15 (p 278 47 56)) (.cstr "-" 0 (p 278 60 63)) (p 278 47 63)) (.cons (.cal 10 (.cons (.bi .ord (.cons (.loc 1 (p 278 81 86)) .nil) (p 278 77 80) (p 278 77 87)) .nil) (p 278 68 76) (p 278 68 88)) .nil)) (p 278 47 88)) .nil)) (p 278 30 89)) .nil)) (p 278 11 90)) (.cons (.ret (.cboo true 0 (p 279 19 23)) (p 279 12 23))
  .nil) .nil ⟨278,8,279,23⟩)
  (.cons (.iff (.cal 28 (.cons (.att (.loc 0 (p 280 19 23)) 15 (p 280 19 28)) .nil) (p 280 11 18) (p 280 11 29)) (.cons (.ret (.bool .Or (.cons (.cal 28 (.cons (.loc 1 (p 281 27 32)) .nil) (p 281 19 26) (p 281 19 33)) (.cons (.cmp .Eq (.loc 1 (p 281 37 42)) (.cstr "'" 0 (p 281 46 49)) (p 281 37 49)) .nil)) (p 281 19 49)) (p 281 12 49))
  .nil) .nil ⟨280,8,281,49⟩)
  (.cons (.iff (.cal 14 (.cons (.bi .ord (.cons (.att (.loc 0 (p 282 25 29)) 15 (p 282 25 34)) .nil) (p 282 21 24) (p 282 21 35)) .nil) (p 282 11 20) (p 282 11 36)) (.cons (.ret (.cal 14 (.cons (.bi .ord (.cons (.loc 1 (p 283 33 38)) .nil) (p 283 29 32) (p 283 29 39)) .nil) (p 283 19 28) (p 283 19 40)) (p 283 12 40))
  .nil) .nil ⟨282,8,283,40⟩)
  (.cons (.ret (.bool .And (.cons (.cmp .Eq (.att (.loc 0 (p 284 15 19)) 15 (p 284 15 24)) (.cstr "'" 0 (p 284 28 31)) (p 284 15 31)) (.cons (.cmp .Eq (.loc 1 (p 284 36 41)) (.cstr "'" 0 (p 284 45 48)) (p 284 36 48)) .nil)) (p 284 15 48)) (p 284 8 48))
  .nil)))))
noncomputable def sc34 : Scope := ⟨.function, [(Str.ofString "self", .local), (Str.ofString "first", .local), (Str.ofString "is_digit", .globalImplicit), (Str.ofString "ord", .globalImplicit), (Str.ofString "is_word", .globalImplicit), (Str.ofString "is_symbol", .globalImplicit)], false, false, []⟩
noncomputable def fh34 : FnI := ⟨378, "", Str.ofString "Writer.needs_space", sc34, ⟨[], [], none, [], [], none, []⟩, [], ns34, 2, []⟩
noncomputable def ns35 : List String := ["self", "items", "item"]
noncomputable def ir35 : Ss := (.cons (.for_ (.nm 2 (p 287 12 16)) (.rev (p 287 20 28) (p 287 20 35)) (.loc 1 (p 287 29 34)) (.cons (.exp (.mb (.att (.loc 0 (p 288 12 16)) 17 (p 288 12 21)) .append (.cons (.loc 2 (p 288 29 33)) .nil) (p 288 12 28) (p 288 12 34)) (p 288 12 34))
  .nil) ⟨287,8,288,34⟩)
  .nil)
noncomputable def sc35 : Scope := ⟨.function, [(Str.ofString "self", .local), (Str.ofString "items", .local), (Str.ofString "item", .local), (Str.ofString "reversed", .globalImplicit)], false, false, []⟩
noncomputable def fh35 : FnI := ⟨385, "", Str.ofString "Writer.later", sc35, ⟨[], [], none, [], [], none, []⟩, [], ns35, 2, []⟩
noncomputable def ns36 : List String := ["self", "term", "most", "alone", "kind", "shape"]
noncomputable def ir36 : Ss := (.cons (.asg (.nm 4 (p 291 8 12)) (.idx (.loc 1 (p 291 15 19)) (.cint (0) 0 (p 291 20 21)) (p 291 15 22)) (p 291 8 22))
  (.cons (.iff (.cmp .Eq (.loc 4 (p 292 11 15)) (.cstr "v" 0 (p 292 19 22)) (p 292 11 22)) (.cons (.exp (.met (.loc 0 (p 293 12 16)) 13 (.cons (.met (.loc 0 (p 293 23 27)) 17 (.cons (.idx (.loc 1 (p 293 42 46)) (.cint (1) 0 (p 293 47 48)) (p 293 42 49)) .nil) (p 293 23 41) (p 293 23 50)) .nil) (p 293 12 22) (p 293 12 51)) (p 293 12 51))
  .nil) (.cons (.iff (.cmp .Eq (.loc 4 (p 294 13 17)) (.cstr "i" 0 (p 294 21 24)) (p 294 13 24)) (.cons (.exp (.met (.loc 0 (p 295 12 16)) 13 (.cons (.cal 49 (.cons (.idx (.loc 1 (p 295 35 39)) (.cint (1) 0 (p 295 40 41)) (p 295 35 42)) .nil) (p 295 23 34) (p 295 23 43)) .nil) (p 295 12 22) (p 295 12 44)) (p 295 12 44))
  .nil) (.cons (.iff (.cmp .Eq (.loc 4 (p 296 13 17)) (.cstr "a" 0 (p 296 21 24)) (p 296 13 24)) (.cons (.exp (.met (.loc 0 (p 297 12 16)) 19 (.cons (.idx (.loc 1 (p 297 28 32)) (.cint (1) 0 (p 297 33 34)) (p 297 28 35)) (.cons (.loc 3 (p 297 37 42)) .nil)) (p 297 12 27) (p 297 12 43)) (p 297 12 43))
  .nil) (.cons (.iff (.cmp .Eq (.idx (.loc 1 (p 298 13 17)) (.cint (1) 0 (p 298 18 19)) (p 298 13 20)) (.gv 4 (p 298 24 29)) (p 298 13 29)) (.cons (.exp (.met (.loc 0 (p 299 12 16)) 20 (.cons (.loc 1 (p 299 28 32)) .nil) (p 299 12 27) (p 299 12 33)) (p 299 12 33))
  .nil) (.cons (.iff (.met (.loc 0 (p 300 13 17)) 18 (.cons (.loc 1 (p 300 30 34)) .nil) (p 300 13 29) (p 300 13 35)) (.cons (.bad (.Expr (.Call (.Attribute (.Name (Str.ofString "self") (p 301 12 16)) (Str.ofString "token") (p 301 12 22)) [(.Call (.Name (Str.ofString "numbered_text") (p 301 23 36)) [(.Subscript (.Subscript (.Subscript (.Name (Str.ofString "term") (p 301 37 41)) (.Constant (.int (2)) 0 (p 301 42 43)) (p 301 37 44)) (.Constant (.int (0)) 0 (p 301 45 46)) (p 301 37 47)) (.Constant (.int (1)) 0 (p 301 48 49)) (p 301 37 50))] [] (p 301 23 51))] [] (p 301 12 52)) (p 301 12 52)))
  .nil) (.cons (.iff (.bool .And (.cons (.cmp .Eq (.idx (.loc 1 (p 302 13 17)) (.cint (1) 0 (p 302 18 19)) (p 302 13 20)) (.gv 5 (p 302 24 31)) (p 302 13 31)) (.cons (.not (.att (.loc 0 (p 302 41 45)) 10 (p 302 41 56)) (p 302 37 56)) .nil)) (p 302 13 57)) (.cons (.exp (.met (.loc 0 (p 303 12 16)) 13 (.cons (.cstr "{" 0 (p 303 23 26)) .nil) (p 303 12 22) (p 303 12 27)) (p 303 12 27))
  (.cons (.exp (.met (.loc 0 (p 304 12 16)) 15 (.cons (.lst (.cons (.tup (.cons (.cstr "term" 0 (p 304 25 31)) (.cons (.idx (.idx (.loc 1 (p 304 33 37)) (.cint (2) 0 (p 304 38 39)) (p 304 33 40)) (.cint (0) 0 (p 304 41 42)) (p 304 33 43)) (.cons (.gv 11 (p 304 45 59)) (.cons (.cboo true 0 (p 304 61 65)) .nil)))) 0 (p 304 24 66)) (.cons (.tup (.cons (.cstr "raw" 0 (p 304 69 74)) (.cons (.cstr "}" 0 (p 304 76 79)) (.cons (.cint (0) 0 (p 304 81 82)) (.cons (.cboo false 0 (p 304 84 89)) .nil)))) 0 (p 304 68 90)) .nil)) (p 304 23 91)) .nil) (p 304 12 22) (p 304 12 92)) (p 304 12 92))
  .nil)) (.cons (.asg (.nm 5 (p 306 12 17)) (.met (.loc 0 (p 306 20 24)) 22 (.cons (.loc 1 (p 306 31 35)) .nil) (p 306 20 30) (p 306 20 36)) (p 306 12 36))
  (.cons (.iff (.cmp .Is (.loc 5 (p 307 15 20)) (.cnon 0 (p 307 24 28)) (p 307 15 28)) (.cons (.exp (.met (.loc 0 (p 308 16 20)) 21 (.cons (.loc 1 (p 308 38 42)) .nil) (p 308 16 37) (p 308 16 43)) (p 308 16 43))
  .nil) (.cons (.exp (.met (.loc 0 (p 310 16 20)) 23 (.cons (.loc 1 (p 310 37 41)) (.cons (.loc 5 (p 310 43 48)) (.cons (.loc 2 (p 310 50 54)) .nil))) (p 310 16 36) (p 310 16 55)) (p 310 16 55))
  .nil) ⟨307,12,310,55⟩)
  .nil)) ⟨302,8,310,55⟩)
  .nil) ⟨300,8,310,55⟩)
  .nil) ⟨298,8,310,55⟩)
  .nil) ⟨296,8,310,55⟩)
  .nil) ⟨294,8,310,55⟩)
  .nil) ⟨292,8,310,55⟩)
  .nil))
noncomputable def sc36 : Scope := ⟨.function, [(Str.ofString "self", .local), (Str.ofString "term", .local), (Str.ofString "most", .local), (Str.ofString "alone", .local), (Str.ofString "kind", .local), (Str.ofString "shape", .local), (Str.ofString "number_text", .globalImplicit), (Str.ofString "F_DOT", .globalImplicit), (Str.ofString "numbered_text", .globalImplicit), (Str.ofString "F_CURLY", .globalImplicit), (Str.ofString "WHOLE_PRIORITY", .globalImplicit)], false, false, []⟩
noncomputable def fh36 : FnI := ⟨392, "", Str.ofString "Writer.write", sc36, ⟨[], [], none, [], [], none, []⟩, [], ns36, 4, []⟩
noncomputable def ns37 : List String := ["self", "term"]
noncomputable def ir37 : Ss := (.cons (.iff (.bool .Or (.cons (.not (.att (.loc 0 (p 321 15 19)) 11 (p 321 15 30)) (p 321 11 30)) (.cons (.cmp .NotEq (.idx (.loc 1 (p 321 34 38)) (.cint (1) 0 (p 321 39 40)) (p 321 34 41)) (.gv 6 (p 321 45 54)) (p 321 34 54)) .nil)) (p 321 11 54)) (.cons (.ret (.cboo false 0 (p 322 19 24)) (p 322 12 24))
  .nil) .nil ⟨321,8,322,24⟩)
  (.cons (.ret (.bool .And (.cons (.cmp .Eq (.idx (.idx (.idx (.loc 1 (p 323 15 19)) (.cint (2) 0 (p 323 20 21)) (p 323 15 22)) (.cint (0) 0 (p 323 23 24)) (p 323 15 25)) (.cint (0) 0 (p 323 26 27)) (p 323 15 28)) (.cstr "i" 0 (p 323 32 35)) (p 323 15 35)) (.cons (.cmp .GtE (.idx (.idx (.idx (.loc 1 (p 323 40 44)) (.cint (2) 0 (p 323 45 46)) (p 323 40 47)) (.cint (0) 0 (p 323 48 49)) (p 323 40 50)) (.cint (1) 0 (p 323 51 52)) (p 323 40 53)) (.cint (0) 0 (p 323 57 58)) (p 323 40 58)) .nil)) (p 323 15 58)) (p 323 8 58))
  .nil))
noncomputable def sc37 : Scope := ⟨.function, [(Str.ofString "self", .local), (Str.ofString "term", .local), (Str.ofString "F_VARNAME", .globalImplicit)], false, false, []⟩
noncomputable def fh37 : FnI := ⟨406, "", Str.ofString "Writer.is_numbered", sc37, ⟨[], [], none, [], [], none, []⟩, [], ns37, 2, []⟩
noncomputable def ns38 : List String := ["self", "a", "alone", "text"]
noncomputable def ir38 : Ss := (.cons (.asg (.nm 3 (p 326 8 12)) (.cal 27 (.cons (.att (.loc 0 (p 326 25 29)) 4 (p 326 25 37)) (.cons (.loc 1 (p 326 39 40)) (.cons (.att (.loc 0 (p 326 42 46)) 9 (p 326 42 53)) .nil))) (p 326 15 24) (p 326 15 54)) (p 326 8 54))
  (.cons (.iff (.bool .And (.cons (.not (.loc 2 (p 327 15 20)) (p 327 11 20)) (.cons (.met (.att (.loc 0 (p 327 25 29)) 8 (p 327 25 39)) 9 (.cons (.loc 1 (p 327 52 53)) .nil) (p 327 25 51) (p 327 25 54)) .nil)) (p 327 11 54)) (.cons (.exp (.met (.loc 0 (p 328 12 16)) 13 (.cons (.cstr "(" 0 (p 328 23 26)) .nil) (p 328 12 22) (p 328 12 27)) (p 328 12 27))
  (.cons (.exp (.met (.loc 0 (p 329 12 16)) 12 (.cons (.loc 3 (p 329 21 25)) .nil) (p 329 12 20) (p 329 12 26)) (p 329 12 26))
  (.cons (.exp (.met (.loc 0 (p 330 12 16)) 12 (.cons (.cstr ")" 0 (p 330 21 24)) .nil) (p 330 12 20) (p 330 12 25)) (p 330 12 25))
  .nil))) (.cons (.exp (.met (.loc 0 (p 332 12 16)) 13 (.cons (.loc 3 (p 332 23 27)) .nil) (p 332 12 22) (p 332 12 28)) (p 332 12 28))
  .nil) ⟨327,8,332,28⟩)
  .nil))
noncomputable def sc38 : Scope := ⟨.function, [(Str.ofString "self", .local), (Str.ofString "a", .local), (Str.ofString "alone", .local), (Str.ofString "text", .local), (Str.ofString "atom_text", .globalImplicit)], false, false, []⟩
noncomputable def fh38 : FnI := ⟨413, "", Str.ofString "Writer.write_atom", sc38, ⟨[], [], none, [], [], none, []⟩, [], ns38, 3, []⟩
noncomputable def ns39 : List String := ["self", "term", "items", "tail", "rows", "item"]
noncomputable def ir39 : Ss := (.cons (.asg (.tp [(2, (p 335 8 13)), (3, (p 335 15 19))] 0 (p 335 8 19)) (.cal 9 (.cons (.loc 1 (p 335 33 37)) .nil) (p 335 22 32) (p 335 22 38)) (p 335 8 38))
  (.cons (.exp (.met (.loc 0 (p 336 8 12)) 13 (.cons (.cstr "[" 0 (p 336 19 22)) .nil) (p 336 8 18) (p 336 8 23)) (p 336 8 23))
  (.cons (.ownN 4 .nil (p 337 8 12) (p 337 15 17) (p 337 8 17))
  (.cons (.for_ (.nm 5 (p 338 12 16)) .over (.loc 2 (p 338 20 25)) (.cons (.iff (.loc 4 (p 339 15 19)) (.cons (.ownA 4 (.tup (.cons (.cstr "raw" 0 (p 340 29 34)) (.cons (.cstr "," 0 (p 340 36 39)) (.cons (.cint (0) 0 (p 340 41 42)) (.cons (.cboo false 0 (p 340 44 49)) .nil)))) 0 (p 340 28 50)) (p 340 16 20) (p 340 16 27) (p 340 16 51) (p 340 16 51))
  .nil) .nil ⟨339,12,340,51⟩)
  (.cons (.ownA 4 (.tup (.cons (.cstr "term" 0 (p 341 25 31)) (.cons (.loc 5 (p 341 33 37)) (.cons (.gv 12 (p 341 39 56)) (.cons (.cboo true 0 (p 341 58 62)) .nil)))) 0 (p 341 24 63)) (p 341 12 16) (p 341 12 23) (p 341 12 64) (p 341 12 64))
  .nil)) ⟨338,8,341,64⟩)
  (.cons (.iff (.cmp .NotEq (.loc 3 (p 342 11 15)) (.tup (.cons (.cstr "a" 0 (p 342 20 23)) (.cons (.gv 0 (p 342 25 30)) .nil)) 0 (p 342 19 31)) (p 342 11 31)) (.cons (.ownA 4 (.tup (.cons (.cstr "raw" 0 (p 343 25 30)) (.cons (.cstr "|" 0 (p 343 32 35)) (.cons (.cint (0) 0 (p 343 37 38)) (.cons (.cboo false 0 (p 343 40 45)) .nil)))) 0 (p 343 24 46)) (p 343 12 16) (p 343 12 23) (p 343 12 47) (p 343 12 47))
  (.cons (.ownA 4 (.tup (.cons (.cstr "term" 0 (p 344 25 31)) (.cons (.loc 3 (p 344 33 37)) (.cons (.gv 12 (p 344 39 56)) (.cons (.cboo true 0 (p 344 58 62)) .nil)))) 0 (p 344 24 63)) (p 344 12 16) (p 344 12 23) (p 344 12 64) (p 344 12 64))
  .nil)) .nil ⟨342,8,344,64⟩)
  (.cons (.ownA 4 (.tup (.cons (.cstr "raw" 0 (p 345 21 26)) (.cons (.cstr "]" 0 (p 345 28 31)) (.cons (.cint (0) 0 (p 345 33 34)) (.cons (.cboo false 0 (p 345 36 41)) .nil)))) 0 (p 345 20 42)) (p 345 8 12) (p 345 8 19) (p 345 8 43) (p 345 8 43))
  (.cons (.frz 4)
  (.cons (.exp (.met (.loc 0 (p 346 8 12)) 15 (.cons (.loc 4 (p 346 19 23)) .nil) (p 346 8 18) (p 346 8 24)) (p 346 8 24))
  .nil))))))))
noncomputable def sc39 : Scope := ⟨.function, [(Str.ofString "self", .local), (Str.ofString "term", .local), (Str.ofString "items", .local), (Str.ofString "tail", .local), (Str.ofString "rows", .local), (Str.ofString "item", .local), (Str.ofString "list_items", .globalImplicit), (Str.ofString "ARGUMENT_PRIORITY", .globalImplicit), (Str.ofString "A_NIL", .globalImplicit)], false, false, []⟩
noncomputable def fh39 : FnI := ⟨420, "", Str.ofString "Writer.write_list", sc39, ⟨[], [], none, [], [], none, []⟩, [], ns39, 2, []⟩
noncomputable def ns40 : List String := ["self", "term", "rows", "item"]
noncomputable def ir40 : Ss := (.cons (.exp (.met (.loc 0 (p 349 8 12)) 13 (.cons (.cal 27 (.cons (.att (.loc 0 (p 349 29 33)) 4 (p 349 29 41)) (.cons (.met (.att (.loc 0 (p 349 43 47)) 4 (p 349 43 55)) 4 (.cons (.idx (.loc 1 (p 349 61 65)) (.cint (1) 0 (p 349 66 67)) (p 349 61 68)) .nil) (p 349 43 60) (p 349 43 69)) (.cons (.att (.loc 0 (p 349 71 75)) 9 (p 349 71 82)) .nil))) (p 349 19 28) (p 349 19 83)) .nil) (p 349 8 18) (p 349 8 84)) (p 349 8 84))
  (.cons (.ownN 2 .nil (p 350 8 12) (p 350 15 17) (p 350 8 17))
  (.cons (.for_ (.nm 3 (p 351 12 16)) .over (.idx (.loc 1 (p 351 20 24)) (.cint (2) 0 (p 351 25 26)) (p 351 20 27)) (.cons (.iff (.loc 2 (p 352 15 19)) (.cons (.ownA 2 (.tup (.cons (.cstr "raw" 0 (p 353 29 34)) (.cons (.cstr "," 0 (p 353 36 39)) (.cons (.cint (0) 0 (p 353 41 42)) (.cons (.cboo false 0 (p 353 44 49)) .nil)))) 0 (p 353 28 50)) (p 353 16 20) (p 353 16 27) (p 353 16 51) (p 353 16 51))
  .nil) (.cons (.ownA 2 (.tup (.cons (.cstr "raw" 0 (p 355 29 34)) (.cons (.cstr "(" 0 (p 355 36 39)) (.cons (.cint (0) 0 (p 355 41 42)) (.cons (.cboo false 0 (p 355 44 49)) .nil)))) 0 (p 355 28 50)) (p 355 16 20) (p 355 16 27) (p 355 16 51) (p 355 16 51))
  .nil) ⟨352,12,355,51⟩)
  (.cons (.ownA 2 (.tup (.cons (.cstr "term" 0 (p 356 25 31)) (.cons (.loc 3 (p 356 33 37)) (.cons (.gv 12 (p 356 39 56)) (.cons (.cboo true 0 (p 356 58 62)) .nil)))) 0 (p 356 24 63)) (p 356 12 16) (p 356 12 23) (p 356 12 64) (p 356 12 64))
  .nil)) ⟨351,8,356,64⟩)
  (.cons (.ownA 2 (.tup (.cons (.cstr "raw" 0 (p 357 21 26)) (.cons (.cstr ")" 0 (p 357 28 31)) (.cons (.cint (0) 0 (p 357 33 34)) (.cons (.cboo false 0 (p 357 36 41)) .nil)))) 0 (p 357 20 42)) (p 357 8 12) (p 357 8 19) (p 357 8 43) (p 357 8 43))
  (.cons (.frz 2)
  (.cons (.exp (.met (.loc 0 (p 358 8 12)) 15 (.cons (.loc 2 (p 358 19 23)) .nil) (p 358 8 18) (p 358 8 24)) (p 358 8 24))
  .nil))))))
noncomputable def sc40 : Scope := ⟨.function, [(Str.ofString "self", .local), (Str.ofString "term", .local), (Str.ofString "rows", .local), (Str.ofString "item", .local), (Str.ofString "atom_text", .globalImplicit), (Str.ofString "ARGUMENT_PRIORITY", .globalImplicit)], false, false, []⟩
noncomputable def fh40 : FnI := ⟨427, "", Str.ofString "Writer.write_functional", sc40, ⟨[], [], none, [], [], none, []⟩, [], ns40, 2, []⟩
noncomputable def ns41 : List String := ["self", "term", "name", "args", "entry"]
noncomputable def ir41 : Ss := (.cons (.iff (.bool .Or (.cons (.att (.loc 0 (p 361 11 15)) 10 (p 361 11 26)) (.cons (.cmp .NotEq (.idx (.loc 1 (p 361 30 34)) (.cint (0) 0 (p 361 35 36)) (p 361 30 37)) (.cstr "s" 0 (p 361 41 44)) (p 361 30 44)) .nil)) (p 361 11 44)) (.cons (.ret (.cnon 0 (p 362 19 23)) (p 362 12 23))
  .nil) .nil ⟨361,8,362,23⟩)
  (.cons (.iff (.bool .Or (.cons (.cmp .Eq (.idx (.loc 1 (p 363 11 15)) (.cint (1) 0 (p 363 16 17)) (p 363 11 18)) (.gv 4 (p 363 22 27)) (p 363 11 27)) (.cons (.cmp .Eq (.idx (.loc 1 (p 363 31 35)) (.cint (1) 0 (p 363 36 37)) (p 363 31 38)) (.gv 5 (p 363 42 49)) (p 363 31 49)) (.cons (.met (.loc 0 (p 363 53 57)) 18 (.cons (.loc 1 (p 363 70 74)) .nil) (p 363 53 69) (p 363 53 75)) .nil))) (p 363 11 75)) (.cons (.ret (.cnon 0 (p 364 19 23)) (p 364 12 23))
  .nil) .nil ⟨363,8,364,23⟩)
  (.cons (.asg (.nm 2 (p 365 8 12)) (.met (.att (.loc 0 (p 365 15 19)) 4 (p 365 15 27)) 4 (.cons (.idx (.loc 1 (p 365 33 37)) (.cint (1) 0 (p 365 38 39)) (p 365 33 40)) .nil) (p 365 15 32) (p 365 15 41)) (p 365 8 41))
  (.cons (.asg (.nm 3 (p 366 8 12)) (.idx (.loc 1 (p 366 15 19)) (.cint (2) 0 (p 366 20 21)) (p 366 15 22)) (p 366 8 22))
  (.cons (.iff (.cmp .Eq (.bi .len (.cons (.loc 3 (p 367 15 19)) .nil) (p 367 11 14) (p 367 11 20)) (.cint (2) 0 (p 367 24 25)) (p 367 11 25)) (.cons (.asg (.nm 4 (p 368 12 17)) (.met (.att (.loc 0 (p 368 20 24)) 8 (p 368 20 34)) 7 (.cons (.loc 2 (p 368 41 45)) .nil) (p 368 20 40) (p 368 20 46)) (p 368 12 46))
  (.cons (.iff (.cmp .IsNot (.loc 4 (p 369 15 20)) (.cnon 0 (p 369 28 32)) (p 369 15 32)) (.cons (.ret (.tup (.cons (.cstr "infix" 0 (p 370 24 31)) (.cons (.idx (.loc 4 (p 370 33 38)) (.cint (0) 0 (p 370 39 40)) (p 370 33 41)) (.cons (.idx (.loc 4 (p 370 43 48)) (.cint (1) 0 (p 370 49 50)) (p 370 43 51)) .nil))) 0 (p 370 23 52)) (p 370 16 52))
  .nil) .nil ⟨369,12,370,52⟩)
  .nil)) .nil ⟨367,8,370,52⟩)
  (.cons (.iff (.cmp .Eq (.bi .len (.cons (.loc 3 (p 371 15 19)) .nil) (p 371 11 14) (p 371 11 20)) (.cint (1) 0 (p 371 24 25)) (p 371 11 25)) (.cons (.asg (.nm 4 (p 372 12 17)) (.met (.att (.loc 0 (p 372 20 24)) 8 (p 372 20 34)) 6 (.cons (.loc 2 (p 372 42 46)) .nil) (p 372 20 41) (p 372 20 47)) (p 372 12 47))
  (.cons (.iff (.cmp .IsNot (.loc 4 (p 373 15 20)) (.cnon 0 (p 373 28 32)) (p 373 15 32)) (.cons (.iff (.bool .And (.cons (.cmp .Eq (.loc 2 (p 374 19 23)) (.gv 1 (p 374 27 34)) (p 374 19 34)) (.cons (.cmp .Eq (.idx (.idx (.loc 3 (p 374 39 43)) (.cint (0) 0 (p 374 44 45)) (p 374 39 46)) (.cint (0) 0 (p 374 47 48)) (p 374 39 49)) (.cstr "i" 0 (p 374 53 56)) (p 374 39 56)) (.cons (.cmp .GtE (.idx (.idx (.loc 3 (p 374 62 66)) (.cint (0) 0 (p 374 67 68)) (p 374 62 69)) (.cint (1) 0 (p 374 70 71)) (p 374 62 72)) (.cint (0) 0 (p 374 76 77)) (p 374 62 77)) .nil))) (p 374 19 78)) (.cons (.ret (.cnon 0 (p 375 27 31)) (p 375 20 31))
  .nil) .nil ⟨374,16,375,31⟩)
  (.cons (.ret (.tup (.cons (.cstr "prefix" 0 (p 376 24 32)) (.cons (.idx (.loc 4 (p 376 34 39)) (.cint (0) 0 (p 376 40 41)) (p 376 34 42)) (.cons (.idx (.loc 4 (p 376 44 49)) (.cint (1) 0 (p 376 50 51)) (p 376 44 52)) .nil))) 0 (p 376 23 53)) (p 376 16 53))
  .nil)) .nil ⟨373,12,376,53⟩)
  (.cons (.asg (.nm 4 (p 377 12 17)) (.met (.att (.loc 0 (p 377 20 24)) 8 (p 377 20 34)) 8 (.cons (.loc 2 (p 377 43 47)) .nil) (p 377 20 42) (p 377 20 48)) (p 377 12 48))
  (.cons (.iff (.cmp .IsNot (.loc 4 (p 378 15 20)) (.cnon 0 (p 378 28 32)) (p 378 15 32)) (.cons (.ret (.tup (.cons (.cstr "postfix" 0 (p 379 24 33)) (.cons (.idx (.loc 4 (p 379 35 40)) (.cint (0) 0 (p 379 41 42)) (p 379 35 43)) (.cons (.idx (.loc 4 (p 379 45 50)) (.cint (1) 0 (p 379 51 52)) (p 379 45 53)) .nil))) 0 (p 379 23 54)) (p 379 16 54))
  .nil) .nil ⟨378,12,379,54⟩)
  .nil)))) .nil ⟨371,8,379,54⟩)
  (.cons (.ret (.cnon 0 (p 380 15 19)) (p 380 8 19))
  .nil)))))))
noncomputable def sc41 : Scope := ⟨.function, [(Str.ofString "self", .local), (Str.ofString "term", .local), (Str.ofString "name", .local), (Str.ofString "args", .local), (Str.ofString "entry", .local), (Str.ofString "F_DOT", .globalImplicit), (Str.ofString "F_CURLY", .globalImplicit), (Str.ofString "len", .globalImplicit), (Str.ofString "A_MINUS", .globalImplicit)], false, false, []⟩
noncomputable def fh41 : FnI := ⟨434, "", Str.ofString "Writer.shape", sc41, ⟨[], [], none, [], [], none, []⟩, [], ns41, 2, []⟩
noncomputable def ns42 : List String := ["self", "term", "shape", "most", "kind", "priority", "type_text", "left", "right", "name", "args", "rows"]
noncomputable def ir42 : Ss := (.cons (.asg (.tp [(4, (p 383 8 12)), (5, (p 383 14 22)), (6, (p 383 24 33))] 0 (p 383 8 33)) (.loc 2 (p 383 36 41)) (p 383 8 41))
  (.cons (.asg (.tp [(7, (p 384 8 12)), (8, (p 384 14 19))] 0 (p 384 8 19)) (.cal 19 (.cons (.loc 5 (p 384 29 37)) (.cons (.loc 6 (p 384 39 48)) .nil)) (p 384 22 28) (p 384 22 49)) (p 384 8 49))
  (.cons (.asg (.nm 9 (p 385 8 12)) (.met (.att (.loc 0 (p 385 15 19)) 4 (p 385 15 27)) 4 (.cons (.idx (.loc 1 (p 385 33 37)) (.cint (1) 0 (p 385 38 39)) (p 385 33 40)) .nil) (p 385 15 32) (p 385 15 41)) (p 385 8 41))
  (.cons (.asg (.nm 10 (p 386 8 12)) (.idx (.loc 1 (p 386 15 19)) (.cint (2) 0 (p 386 20 21)) (p 386 15 22)) (p 386 8 22))
  (.cons (.ownN 11 .nil (p 387 8 12) (p 387 15 17) (p 387 8 17))
  (.cons (.iff (.cmp .Gt (.loc 5 (p 388 11 19)) (.loc 3 (p 388 22 26)) (p 388 11 26)) (.cons (.exp (.met (.loc 0 (p 389 12 16)) 13 (.cons (.cstr "(" 0 (p 389 23 26)) .nil) (p 389 12 22) (p 389 12 27)) (p 389 12 27))
  .nil) .nil ⟨388,8,389,27⟩)
  (.cons (.iff (.cmp .Eq (.loc 4 (p 390 11 15)) (.cstr "prefix" 0 (p 390 19 27)) (p 390 11 27)) (.cons (.exp (.met (.loc 0 (p 391 12 16)) 25 (.cons (.loc 9 (p 391 33 37)) .nil) (p 391 12 32) (p 391 12 38)) (p 391 12 38))
  (.cons (.ownA 11 (.tup (.cons (.cstr "term" 0 (p 392 25 31)) (.cons (.idx (.loc 10 (p 392 33 37)) (.cint (0) 0 (p 392 38 39)) (p 392 33 40)) (.cons (.loc 8 (p 392 42 47)) (.cons (.cboo false 0 (p 392 49 54)) .nil)))) 0 (p 392 24 55)) (p 392 12 16) (p 392 12 23) (p 392 12 56) (p 392 12 56))
  .nil)) (.cons (.ownA 11 (.tup (.cons (.cstr "term" 0 (p 394 25 31)) (.cons (.idx (.loc 10 (p 394 33 37)) (.cint (0) 0 (p 394 38 39)) (p 394 33 40)) (.cons (.met (.loc 0 (p 394 42 46)) 24 (.cons (.idx (.loc 10 (p 394 58 62)) (.cint (0) 0 (p 394 63 64)) (p 394 58 65)) (.cons (.loc 5 (p 394 67 75)) (.cons (.loc 7 (p 394 77 81)) .nil))) (p 394 42 57) (p 394 42 82)) (.cons (.cboo false 0 (p 394 84 89)) .nil)))) 0 (p 394 24 90)) (p 394 12 16) (p 394 12 23) (p 394 12 91) (p 394 12 91))
  (.cons (.ownA 11 (.tup (.cons (.loc 4 (p 395 25 29)) (.cons (.loc 9 (p 395 31 35)) (.cons (.cint (0) 0 (p 395 37 38)) (.cons (.cboo false 0 (p 395 40 45)) .nil)))) 0 (p 395 24 46)) (p 395 12 16) (p 395 12 23) (p 395 12 47) (p 395 12 47))
  (.cons (.iff (.cmp .Eq (.loc 4 (p 396 15 19)) (.cstr "infix" 0 (p 396 23 30)) (p 396 15 30)) (.cons (.ownA 11 (.tup (.cons (.cstr "term" 0 (p 397 29 35)) (.cons (.idx (.loc 10 (p 397 37 41)) (.cint (1) 0 (p 397 42 43)) (p 397 37 44)) (.cons (.loc 8 (p 397 46 51)) (.cons (.cboo false 0 (p 397 53 58)) .nil)))) 0 (p 397 28 59)) (p 397 16 20) (p 397 16 27) (p 397 16 60) (p 397 16 60))
  .nil) .nil ⟨396,12,397,60⟩)
  .nil))) ⟨390,8,397,60⟩)
  (.cons (.iff (.cmp .Gt (.loc 5 (p 398 11 19)) (.loc 3 (p 398 22 26)) (p 398 11 26)) (.cons (.ownA 11 (.tup (.cons (.cstr "raw" 0 (p 399 25 30)) (.cons (.cstr ")" 0 (p 399 32 35)) (.cons (.cint (0) 0 (p 399 37 38)) (.cons (.cboo false 0 (p 399 40 45)) .nil)))) 0 (p 399 24 46)) (p 399 12 16) (p 399 12 23) (p 399 12 47) (p 399 12 47))
  .nil) .nil ⟨398,8,399,47⟩)
  (.cons (.frz 11)
  (.cons (.exp (.met (.loc 0 (p 400 8 12)) 15 (.cons (.loc 11 (p 400 19 23)) .nil) (p 400 8 18) (p 400 8 24)) (p 400 8 24))
  .nil))))))))))
noncomputable def sc42 : Scope := ⟨.function, [(Str.ofString "self", .local), (Str.ofString "term", .local), (Str.ofString "shape", .local), (Str.ofString "most", .local), (Str.ofString "kind", .local), (Str.ofString "priority", .local), (Str.ofString "type_text", .local), (Str.ofString "left", .local), (Str.ofString "right", .local), (Str.ofString "name", .local), (Str.ofString "args", .local), (Str.ofString "rows", .local), (Str.ofString "bounds", .globalImplicit)], false, false, []⟩
noncomputable def fh42 : FnI := ⟨441, "", Str.ofString "Writer.write_operation", sc42, ⟨[], [], none, [], [], none, []⟩, [], ns42, 4, []⟩
noncomputable def ns43 : List String := ["self", "operand", "priority", "most", "shape"]
noncomputable def ir43 : Ss := (.cons (.asg (.nm 4 (p 403 8 13)) (.met (.loc 0 (p 403 16 20)) 22 (.cons (.loc 1 (p 403 27 34)) .nil) (p 403 16 26) (p 403 16 35)) (p 403 8 35))
  (.cons (.iff (.bool .And (.cons (.cmp .IsNot (.loc 4 (p 404 11 16)) (.cnon 0 (p 404 24 28)) (p 404 11 28)) (.cons (.cmp .Eq (.idx (.loc 4 (p 404 33 38)) (.cint (1) 0 (p 404 39 40)) (p 404 33 41)) (.loc 2 (p 404 45 53)) (p 404 33 53)) (.cons (.cmp .Eq (.idx (.cal 19 (.cons (.idx (.loc 4 (p 404 66 71)) (.cint (1) 0 (p 404 72 73)) (p 404 66 74)) (.cons (.idx (.loc 4 (p 404 76 81)) (.cint (2) 0 (p 404 82 83)) (p 404 76 84)) .nil)) (p 404 59 65) (p 404 59 85)) (.cint (1) 0 (p 404 86 87)) (p 404 59 88)) (.loc 2 (p 404 92 100)) (p 404 59 100)) .nil))) (p 404 11 101)) (.cons (.ret (.bin .sub (.loc 2 (p 405 19 27)) (.cint (1) 0 (p 405 30 31)) (p 405 19 31)) (p 405 12 31))
  .nil) .nil ⟨404,8,405,31⟩)
  (.cons (.ret (.loc 3 (p 406 15 19)) (p 406 8 19))
  .nil)))
noncomputable def sc43 : Scope := ⟨.function, [(Str.ofString "self", .local), (Str.ofString "operand", .local), (Str.ofString "priority", .local), (Str.ofString "most", .local), (Str.ofString "shape", .local), (Str.ofString "bounds", .globalImplicit)], false, false, []⟩
noncomputable def fh43 : FnI := ⟨448, "", Str.ofString "Writer.left_limit", sc43, ⟨[], [], none, [], [], none, []⟩, [], ns43, 4, []⟩
noncomputable def ns44 : List String := ["self", "a", "text"]
noncomputable def ir44 : Ss := (.cons (.asg (.nm 2 (p 409 8 12)) (.cal 27 (.cons (.att (.loc 0 (p 409 25 29)) 4 (p 409 25 37)) (.cons (.loc 1 (p 409 39 40)) (.cons (.att (.loc 0 (p 409 42 46)) 9 (p 409 42 53)) .nil))) (p 409 15 24) (p 409 15 54)) (p 409 8 54))
  (.cons (.exp (.met (.loc 0 (p 410 8 12)) 13 (.cons (.loc 2 (p 410 19 23)) .nil) (p 410 8 18) (p 410 8 24)) (p 410 8 24))
  (.cons (.iff (.cal 29 (.cons (.loc 2 (p 411 20 24)) .nil) (p 411 11 19) (p 411 11 25)) (.cons (.asgA (.loc 0 (p 412 12 16)) 16 (.cboo true 0 (p 412 28 32)) (p 412 12 25) (p 412 12 32))
  .nil) (.cons (.exp (.met (.loc 0 (p 414 12 16)) 12 (.cons (.cstr " " 0 (p 414 21 24)) .nil) (p 414 12 20) (p 414 12 25)) (p 414 12 25))
  .nil) ⟨411,8,414,25⟩)
  .nil)))
noncomputable def sc44 : Scope := ⟨.function, [(Str.ofString "self", .local), (Str.ofString "a", .local), (Str.ofString "text", .local), (Str.ofString "atom_text", .globalImplicit), (Str.ofString "is_tight", .globalImplicit)], false, false, []⟩
noncomputable def fh44 : FnI := ⟨455, "", Str.ofString "Writer.prefix_operator", sc44, ⟨[], [], none, [], [], none, []⟩, [], ns44, 2, []⟩
noncomputable def ns45 : List String := ["self", "a", "text"]
noncomputable def ir45 : Ss := (.cons (.asg (.nm 2 (p 417 8 12)) (.cal 27 (.cons (.att (.loc 0 (p 417 25 29)) 4 (p 417 25 37)) (.cons (.loc 1 (p 417 39 40)) (.cons (.att (.loc 0 (p 417 42 46)) 9 (p 417 42 53)) .nil))) (p 417 15 24) (p 417 15 54)) (p 417 8 54))
  (.cons (.iff (.cmp .Eq (.loc 1 (p 418 11 12)) (.gv 2 (p 418 16 23)) (p 418 11 23)) (.cons (.exp (.met (.loc 0 (p 419 12 16)) 12 (.cons (.cstr "," 0 (p 419 21 24)) .nil) (p 419 12 20) (p 419 12 25)) (p 419 12 25))
  .nil) (.cons (.iff (.cmp .Eq (.loc 1 (p 420 13 14)) (.gv 3 (p 420 18 23)) (p 420 13 23)) (.cons (.exp (.met (.loc 0 (p 421 12 16)) 12 (.cons (.cstr "|" 0 (p 421 21 24)) .nil) (p 421 12 20) (p 421 12 25)) (p 421 12 25))
  .nil) (.cons (.iff (.cal 29 (.cons (.loc 2 (p 422 22 26)) .nil) (p 422 13 21) (p 422 13 27)) (.cons (.exp (.met (.loc 0 (p 423 12 16)) 13 (.cons (.loc 2 (p 423 23 27)) .nil) (p 423 12 22) (p 423 12 28)) (p 423 12 28))
  .nil) (.cons (.exp (.met (.loc 0 (p 425 12 16)) 12 (.cons (.cstr " " 0 (p 425 21 24)) .nil) (p 425 12 20) (p 425 12 25)) (p 425 12 25))
  (.cons (.exp (.met (.loc 0 (p 426 12 16)) 12 (.cons (.loc 2 (p 426 21 25)) .nil) (p 426 12 20) (p 426 12 26)) (p 426 12 26))
  (.cons (.exp (.met (.loc 0 (p 427 12 16)) 12 (.cons (.cstr " " 0 (p 427 21 24)) .nil) (p 427 12 20) (p 427 12 25)) (p 427 12 25))
  .nil))) ⟨422,8,427,25⟩)
  .nil) ⟨420,8,427,25⟩)
  .nil) ⟨418,8,427,25⟩)
  .nil))
noncomputable def sc45 : Scope := ⟨.function, [(Str.ofString "self", .local), (Str.ofString "a", .local), (Str.ofString "text", .local), (Str.ofString "atom_text", .globalImplicit), (Str.ofString "A_COMMA", .globalImplicit), (Str.ofString "A_BAR", .globalImplicit), (Str.ofString "is_tight", .globalImplicit)], false, false, []⟩
noncomputable def fh45 : FnI := ⟨462, "", Str.ofString "Writer.infix_operator", sc45, ⟨[], [], none, [], [], none, []⟩, [], ns45, 2, []⟩
noncomputable def ns46 : List String := ["self", "a", "text"]
noncomputable def ir46 : Ss := (.cons (.asg (.nm 2 (p 430 8 12)) (.cal 27 (.cons (.att (.loc 0 (p 430 25 29)) 4 (p 430 25 37)) (.cons (.loc 1 (p 430 39 40)) (.cons (.att (.loc 0 (p 430 42 46)) 9 (p 430 42 53)) .nil))) (p 430 15 24) (p 430 15 54)) (p 430 8 54))
  (.cons (.iff (.cal 29 (.cons (.loc 2 (p 431 20 24)) .nil) (p 431 11 19) (p 431 11 25)) (.cons (.exp (.met (.loc 0 (p 432 12 16)) 13 (.cons (.loc 2 (p 432 23 27)) .nil) (p 432 12 22) (p 432 12 28)) (p 432 12 28))
  .nil) (.cons (.exp (.met (.loc 0 (p 434 12 16)) 12 (.cons (.cstr " " 0 (p 434 21 24)) .nil) (p 434 12 20) (p 434 12 25)) (p 434 12 25))
  (.cons (.exp (.met (.loc 0 (p 435 12 16)) 12 (.cons (.loc 2 (p 435 21 25)) .nil) (p 435 12 20) (p 435 12 26)) (p 435 12 26))
  .nil)) ⟨431,8,435,26⟩)
  .nil))
noncomputable def sc46 : Scope := ⟨.function, [(Str.ofString "self", .local), (Str.ofString "a", .local), (Str.ofString "text", .local), (Str.ofString "atom_text", .globalImplicit), (Str.ofString "is_tight", .globalImplicit)], false, false, []⟩
noncomputable def fh46 : FnI := ⟨469, "", Str.ofString "Writer.postfix_operator", sc46, ⟨[], [], none, [], [], none, []⟩, [], ns46, 2, []⟩
noncomputable def ns47 : List String := ["script", "row", "cell", "rest", "turn"]
noncomputable def ir47 : Ss := (.cons (.asg (.nm 1 (p 438 4 7)) (.newl (p 438 10 12)) (p 438 4 12))
  (.cons (.for_ (.nm 2 (p 439 8 12)) .over (.slcTo (.loc 0 (p 439 16 22)) (.cint (40) 0 (p 439 24 26)) (p 439 23 26) (p 439 16 27)) (.cons (.asg (.nm 3 (p 440 8 12)) (.bi .int (.cons (.loc 2 (p 440 19 23)) .nil) (p 440 15 18) (p 440 15 24)) (p 440 8 24))
  (.cons (.for_ (.nm 4 (p 441 12 16)) (.range (p 441 20 25) (p 441 20 49)) (.bi .min (.cons (.cint (30) 0 (p 441 30 32)) (.cons (.bin .sub (.cint (90) 0 (p 441 34 36)) (.bi .len (.cons (.loc 1 (p 441 43 46)) .nil) (p 441 39 42) (p 441 39 47)) (p 441 34 47)) .nil)) (p 441 26 29) (p 441 26 48)) (.cons (.exp (.mb (.loc 1 (p 442 12 15)) .append (.cons (.bin .mod (.loc 3 (p 442 23 27)) (.cint (96) 0 (p 442 30 32)) (p 442 23 32)) .nil) (p 442 12 22) (p 442 12 33)) (p 442 12 33))
  (.cons (.asg (.nm 3 (p 443 12 16)) (.bin .fdiv (.loc 3 (p 443 19 23)) (.cint (96) 0 (p 443 27 29)) (p 443 19 29)) (p 443 12 29))
  (.cons (.iff (.bool .Or (.cons (.cmp .Eq (.loc 3 (p 444 15 19)) (.cint (0) 0 (p 444 23 24)) (p 444 15 24)) (.cons (.cmp .Eq (.loc 3 (p 444 28 32)) (.neg (.cint (1) 0 (p 444 37 38)) (p 444 36 38)) (p 444 28 38)) .nil)) (p 444 15 38)) (.cons (.brk (p 445 16 21))
  .nil) .nil ⟨444,12,445,21⟩)
  .nil))) ⟨441,8,445,21⟩)
  .nil)) ⟨439,4,445,21⟩)
  (.cons (.exp (.mb (.loc 1 (p 446 4 7)) .reverse .nil (p 446 4 15) (p 446 4 17)) (p 446 4 17))
  (.cons (.ret (.loc 1 (p 447 11 14)) (p 447 4 14))
  .nil))))
noncomputable def sc47 : Scope := ⟨.function, [(Str.ofString "script", .local), (Str.ofString "row", .local), (Str.ofString "cell", .local), (Str.ofString "rest", .local), (Str.ofString "turn", .local), (Str.ofString "int", .globalImplicit), (Str.ofString "range", .globalImplicit), (Str.ofString "min", .globalImplicit), (Str.ofString "len", .globalImplicit)], false, false, []⟩
noncomputable def fh47 : FnI := ⟨483, "_law_row", Str.ofString "_law_row", sc47, ⟨[], [], none, [], [], none, []⟩, [], ns47, 1, []⟩
noncomputable def ns48 : List String := ["row", "many"]
noncomputable def ir48 : Ss := (.cons (.ret (.ite (.cmp .Gt (.bi .len (.cons (.loc 0 (p 449 35 38)) .nil) (p 449 31 34) (p 449 31 39)) (.cint (0) 0 (p 449 42 43)) (p 449 31 43)) (.bin .mod (.mb (.loc 0 (p 449 11 14)) .pop .nil (p 449 11 18) (p 449 11 20)) (.loc 1 (p 449 23 27)) (p 449 11 27)) (.cint (0) 0 (p 449 49 50)) (p 449 11 50)) (p 449 4 50))
  .nil)
noncomputable def sc48 : Scope := ⟨.function, [(Str.ofString "row", .local), (Str.ofString "many", .local), (Str.ofString "len", .globalImplicit)], false, false, []⟩
noncomputable def fh48 : FnI := ⟨490, "_law_next", Str.ofString "_law_next", sc48, ⟨[], [], none, [], [], none, []⟩, [], ns48, 2, []⟩
noncomputable def ns49 : List String := ["value", "rest", "pieces", "piece"]
noncomputable def ir49 : Ss := (.cons (.asg (.nm 1 (p 165 4 8)) (.bi .abs (.cons (.loc 0 (p 165 15 20)) .nil) (p 165 11 14) (p 165 11 21)) (p 165 4 21))
  (.cons (.ownN 2 .nil (p 166 4 10) (p 166 13 15) (p 166 4 15))
  (.cons (.whl (.cmp .GtE (.loc 1 (p 167 10 14)) (.bin .pow (.cint (10) 0 (p 167 18 20)) (.cint (18) 0 (p 167 24 26)) (p 167 18 26)) (p 167 10 26)) (.cons (.bad (.Assign [(.Tuple [(.Name (Str.ofString "rest") (p 168 8 12)), (.Name (Str.ofString "piece") (p 168 14 19))] 0 (p 168 8 19))] (.Call (.Name (Str.ofString "divmod") (p 168 22 28)) [(.Name (Str.ofString "rest") (p 168 29 33)), (.BinOp (.Constant (.int (10)) 0 (p 168 35 37)) .Pow (.Constant (.int (18)) 0 (p 168 41 43)) (p 168 35 43))] [] (p 168 22 44)) (p 168 8 44)))
  (.cons (.bad (.Expr (.Call (.Attribute (.Name (Str.ofString "pieces") (p 169 8 14)) (Str.ofString "append") (p 169 8 21)) [(.Call (.Attribute (.Call (.Name (Str.ofString "str") (p 169 22 25)) [(.Name (Str.ofString "piece") (p 169 26 31))] [] (p 169 22 32)) (Str.ofString "zfill") (p 169 22 38)) [(.Constant (.int (18)) 0 (p 169 39 41))] [] (p 169 22 42))] [] (p 169 8 43)) (p 169 8 43)))
  .nil)) ⟨167,4,169,43⟩)
  (.cons (.ownA 2 (.bi .str (.cons (.loc 1 (p 170 22 26)) .nil) (p 170 18 21) (p 170 18 27)) (p 170 4 10) (p 170 4 17) (p 170 4 28) (p 170 4 28))
  (.cons (.iff (.cmp .Lt (.loc 0 (p 171 7 12)) (.cint (0) 0 (p 171 15 16)) (p 171 7 16)) (.cons (.ownA 2 (.cstr "-" 0 (p 172 22 25)) (p 172 8 14) (p 172 8 21) (p 172 8 26) (p 172 8 26))
  .nil) .nil ⟨171,4,172,26⟩)
  (.cons (.frz 2)
  (.cons (.ret (.jrev (.cstr "" 0 (p 173 11 13)) (.loc 2 (p 173 28 34)) (p 173 11 18) (p 173 19 27) (p 173 19 35) (p 173 11 36)) (p 173 4 36))
  .nil)))))))
noncomputable def sc49 : Scope := ⟨.function, [(Str.ofString "value", .local), (Str.ofString "rest", .local), (Str.ofString "pieces", .local), (Str.ofString "piece", .local), (Str.ofString "abs", .globalImplicit), (Str.ofString "divmod", .globalImplicit), (Str.ofString "str", .globalImplicit), (Str.ofString "reversed", .globalImplicit)], false, false, []⟩
noncomputable def fh49 : FnI := ⟨270, "number_text", Str.ofString "number_text", sc49, ⟨[], [], none, [], [], none, []⟩, [], ns49, 1, []⟩
noncomputable def ns50 : List String := ["code", "digits"]
noncomputable def ir50 : Ss := (.cons (.iff (.bool .Or (.cons (.cmp .Eq (.loc 0 (p 198 7 11)) (.cint (39) 0 (p 198 15 17)) (p 198 7 17)) (.cons (.cmp .Eq (.loc 0 (p 198 21 25)) (.cint (92) 0 (p 198 29 31)) (p 198 21 31)) .nil)) (p 198 7 31)) (.cons (.ret (.bin .add (.cstr "\\" 0 (p 199 15 19)) (.bi .chr (.cons (.loc 0 (p 199 26 30)) .nil) (p 199 22 25) (p 199 22 31)) (p 199 15 31)) (p 199 8 31))
  .nil) .nil ⟨198,4,199,31⟩)
  (.cons (.iff (.bool .And (.cons (.cmp .LtE (.cint (7) 0 (p 200 7 8)) (.loc 0 (p 200 12 16)) (p 200 7 16)) (.cons (.cmp .LtE (.loc 0 (p 200 21 25)) (.cint (13) 0 (p 200 29 31)) (p 200 21 31)) .nil)) (p 200 7 31)) (.cons (.ret (.bin .add (.cstr "\\" 0 (p 201 15 19)) (.idx (.cstr "abtnvfr" 0 (p 201 22 31)) (.bin .sub (.loc 0 (p 201 32 36)) (.cint (7) 0 (p 201 39 40)) (p 201 32 40)) (p 201 22 41)) (p 201 15 41)) (p 201 8 41))
  .nil) .nil ⟨200,4,201,41⟩)
  (.cons (.iff (.bool .Or (.cons (.cmp .Lt (.loc 0 (p 202 7 11)) (.cint (32) 0 (p 202 14 16)) (p 202 7 16)) (.cons (.cmp .Eq (.loc 0 (p 202 20 24)) (.cint (127) 0 (p 202 28 31)) (p 202 20 31)) .nil)) (p 202 7 31)) (.cons (.asg (.nm 1 (p 203 8 14)) (.cstr "0123456789abcdef" 0 (p 203 17 35)) (p 203 8 35))
  (.cons (.ret (.bin .add (.bin .add (.bin .add (.cstr "\\x" 0 (p 204 15 20)) (.idx (.loc 1 (p 204 23 29)) (.bin .fdiv (.loc 0 (p 204 30 34)) (.cint (16) 0 (p 204 38 40)) (p 204 30 40)) (p 204 23 41)) (p 204 15 41)) (.idx (.loc 1 (p 204 44 50)) (.bin .mod (.loc 0 (p 204 51 55)) (.cint (16) 0 (p 204 58 60)) (p 204 51 60)) (p 204 44 61)) (p 204 15 61)) (.cstr "\\" 0 (p 204 64 68)) (p 204 15 68)) (p 204 8 68))
  .nil)) .nil ⟨202,4,204,68⟩)
  (.cons (.ret (.bi .chr (.cons (.loc 0 (p 205 15 19)) .nil) (p 205 11 14) (p 205 11 20)) (p 205 4 20))
  .nil))))
noncomputable def sc50 : Scope := ⟨.function, [(Str.ofString "code", .local), (Str.ofString "digits", .local), (Str.ofString "chr", .globalImplicit)], false, false, []⟩
noncomputable def fh50 : FnI := ⟨298, "escaped", Str.ofString "escaped", sc50, ⟨[], [], none, [], [], none, []⟩, [], ns50, 1, []⟩
noncomputable def ns51 : List String := ["text", "parts", "char"]
noncomputable def ir51 : Ss := (.cons (.ownN 1 (.cons (.cstr "'" 0 (p 207 13 16)) .nil) (p 207 4 9) (p 207 12 17) (p 207 4 17))
  (.cons (.for_ (.nm 2 (p 208 8 12)) .over (.loc 0 (p 208 16 20)) (.cons (.ownA 1 (.cal 50 (.cons (.bi .ord (.cons (.loc 2 (p 209 33 37)) .nil) (p 209 29 32) (p 209 29 38)) .nil) (p 209 21 28) (p 209 21 39)) (p 209 8 13) (p 209 8 20) (p 209 8 40) (p 209 8 40))
  .nil) ⟨208,4,209,40⟩)
  (.cons (.ownA 1 (.cstr "'" 0 (p 210 17 20)) (p 210 4 9) (p 210 4 16) (p 210 4 21) (p 210 4 21))
  (.cons (.frz 1)
  (.cons (.ret (.mb (.cstr "" 0 (p 211 11 13)) .join (.cons (.loc 1 (p 211 19 24)) .nil) (p 211 11 18) (p 211 11 25)) (p 211 4 25))
  .nil)))))
noncomputable def sc51 : Scope := ⟨.function, [(Str.ofString "text", .local), (Str.ofString "parts", .local), (Str.ofString "char", .local), (Str.ofString "escaped", .globalImplicit), (Str.ofString "ord", .globalImplicit)], false, false, []⟩
noncomputable def fh51 : FnI := ⟨305, "quoted_text", Str.ofString "quoted_text", sc51, ⟨[], [], none, [], [], none, []⟩, [], ns51, 1, []⟩
noncomputable def ns52 : List String := ["self", "k", "text"]
noncomputable def ir52 : Ss := (.cons (.iff (.cmp .In (.loc 1 (p 313 11 12)) (.att (.loc 0 (p 313 16 20)) 12 (p 313 16 26)) (p 313 11 26)) (.cons (.ret (.idx (.att (.loc 0 (p 314 19 23)) 12 (p 314 19 29)) (.loc 1 (p 314 30 31)) (p 314 19 32)) (p 314 12 32))
  .nil) .nil ⟨313,8,314,32⟩)
  (.cons (.asg (.nm 2 (p 315 8 12)) (.bin .add (.cstr "_" 0 (p 315 15 18)) (.bi .str (.cons (.loc 1 (p 315 25 26)) .nil) (p 315 21 24) (p 315 21 27)) (p 315 15 27)) (p 315 8 27))
  (.cons (.whl (.cmp .In (.loc 2 (p 316 14 18)) (.att (.loc 0 (p 316 22 26)) 13 (p 316 22 32)) (p 316 14 32)) (.cons (.asg (.nm 2 (p 317 12 16)) (.bin .add (.loc 2 (p 317 19 23)) (.cstr "_" 0 (p 317 26 29)) (p 317 19 29)) (p 317 12 29))
  .nil) ⟨316,8,317,29⟩)
  (.cons (.ret (.loc 2 (p 318 15 19)) (p 318 8 19))
  .nil))))
noncomputable def sc52 : Scope := ⟨.function, [(Str.ofString "self", .local), (Str.ofString "k", .local), (Str.ofString "text", .local), (Str.ofString "str", .globalImplicit)], false, false, []⟩
noncomputable def fh52 : FnI := ⟨399, "", Str.ofString "Writer.variable_text", sc52, ⟨[], [], none, [], [], none, []⟩, [], ns52, 2, []⟩
noncomputable def ns53 : List String := ["kind"]
noncomputable def ir53 : Ss := (.cons (.iff (.cmp .Eq (.idx (.loc 0 (p 451 7 11)) (.cint (0) 0 (p 451 12 13)) (p 451 7 14)) (.cstr "f" 0 (p 451 18 21)) (p 451 7 21)) (.cons (.ret (.cstr "before" 0 (p 452 15 23)) (p 452 8 23))
  .nil) .nil ⟨451,4,452,23⟩)
  (.cons (.ret (.ite (.cmp .Eq (.idx (.loc 0 (p 453 23 27)) (.neg (.cint (1) 0 (p 453 29 30)) (p 453 28 30)) (p 453 23 31)) (.cstr "f" 0 (p 453 35 38)) (p 453 23 38)) (.cstr "behind" 0 (p 453 11 19)) (.cstr "between" 0 (p 453 44 53)) (p 453 11 53)) (p 453 4 53))
  .nil))
noncomputable def sc53 : Scope := ⟨.function, [(Str.ofString "kind", .local)], false, false, []⟩
noncomputable def fh53 : FnI := ⟨497, "_law_side", Str.ofString "_law_side", sc53, ⟨[], [], none, [], [], none, []⟩, [], ns53, 1, []⟩
noncomputable def ns54 : List String := ["row", "names", "words", "deep", "way", "first", "other"]
noncomputable def ir54 : Ss := (.cons (.asg (.nm 4 (p 455 4 7)) (.bin .mod (.bin .add (.cal 48 (.cons (.loc 0 (p 455 21 24)) (.cons (.cint (9) 0 (p 455 26 27)) .nil)) (p 455 11 20) (p 455 11 28)) (.ite (.cmp .Gt (.loc 3 (p 455 37 41)) (.cint (0) 0 (p 455 44 45)) (p 455 37 45)) (.cint (6) 0 (p 455 32 33)) (.cint (0) 0 (p 455 51 52)) (p 455 32 52)) (p 455 11 53)) (.cint (9) 0 (p 455 57 58)) (p 455 10 58)) (p 455 4 58))
  (.cons (.iff (.bool .And (.cons (.cmp .Lt (.loc 3 (p 456 7 11)) (.cint (3) 0 (p 456 14 15)) (p 456 7 15)) (.cons (.cmp .Lt (.loc 4 (p 456 20 23)) (.cint (6) 0 (p 456 26 27)) (p 456 20 27)) .nil)) (p 456 7 27)) (.cons (.asg (.nm 5 (p 457 8 13)) (.cal 54 (.cons (.loc 0 (p 457 26 29)) (.cons (.loc 1 (p 457 31 36)) (.cons (.loc 2 (p 457 38 43)) (.cons (.bin .add (.loc 3 (p 457 45 49)) (.cint (1) 0 (p 457 52 53)) (p 457 45 53)) .nil)))) (p 457 16 25) (p 457 16 54)) (p 457 8 54))
  (.cons (.iff (.cmp .Eq (.loc 4 (p 458 11 14)) (.cint (5) 0 (p 458 18 19)) (p 458 11 19)) (.cons (.ret (.tup (.cons (.cstr "s" 0 (p 459 20 23)) (.cons (.gv 5 (p 459 25 32)) (.cons (.tup (.cons (.loc 5 (p 459 35 40)) .nil) 0 (p 459 34 42)) .nil))) 0 (p 459 19 43)) (p 459 12 43))
  .nil) .nil ⟨458,8,459,43⟩)
  (.cons (.iff (.bool .Or (.cons (.cmp .Eq (.loc 4 (p 460 11 14)) (.cint (2) 0 (p 460 18 19)) (p 460 11 19)) (.cons (.cmp .Eq (.loc 4 (p 460 23 26)) (.cint (3) 0 (p 460 30 31)) (p 460 23 31)) .nil)) (p 460 11 31)) (.cons (.ret (.tup (.cons (.cstr "s" 0 (p 461 20 23)) (.cons (.met (.loc 1 (p 461 25 30)) 3 (.cons (.idx (.loc 2 (p 461 36 41)) (.cal 48 (.cons (.loc 0 (p 461 52 55)) (.cons (.cint (5) 0 (p 461 57 58)) .nil)) (p 461 42 51) (p 461 42 59)) (p 461 36 60)) (.cons (.cint (1) 0 (p 461 62 63)) .nil)) (p 461 25 35) (p 461 25 64)) (.cons (.tup (.cons (.loc 5 (p 461 67 72)) .nil) 0 (p 461 66 74)) .nil))) 0 (p 461 19 75)) (p 461 12 75))
  .nil) .nil ⟨460,8,461,75⟩)
  (.cons (.asg (.nm 6 (p 462 8 13)) (.cal 54 (.cons (.loc 0 (p 462 26 29)) (.cons (.loc 1 (p 462 31 36)) (.cons (.loc 2 (p 462 38 43)) (.cons (.bin .add (.loc 3 (p 462 45 49)) (.cint (1) 0 (p 462 52 53)) (p 462 45 53)) .nil)))) (p 462 16 25) (p 462 16 54)) (p 462 8 54))
  (.cons (.iff (.cmp .Eq (.loc 4 (p 463 11 14)) (.cint (4) 0 (p 463 18 19)) (p 463 11 19)) (.cons (.ret (.tup (.cons (.cstr "s" 0 (p 464 20 23)) (.cons (.gv 4 (p 464 25 30)) (.cons (.tup (.cons (.loc 5 (p 464 33 38)) (.cons (.ite (.cmp .Eq (.cal 48 (.cons (.loc 0 (p 464 59 62)) (.cons (.cint (2) 0 (p 464 64 65)) .nil)) (p 464 49 58) (p 464 49 66)) (.cint (0) 0 (p 464 70 71)) (p 464 49 71)) (.loc 6 (p 464 40 45)) (.tup (.cons (.cstr "a" 0 (p 464 78 81)) (.cons (.gv 0 (p 464 83 88)) .nil)) 0 (p 464 77 89)) (p 464 40 89)) .nil)) 0 (p 464 32 90)) .nil))) 0 (p 464 19 91)) (p 464 12 91))
  .nil) .nil ⟨463,8,464,91⟩)
  (.cons (.ret (.tup (.cons (.cstr "s" 0 (p 465 16 19)) (.cons (.met (.loc 1 (p 465 21 26)) 3 (.cons (.idx (.bin .add (.loc 2 (p 465 33 38)) (.lst (.cons (.cstr "," 0 (p 465 42 45)) .nil) (p 465 41 46)) (p 465 33 46)) (.cal 48 (.cons (.loc 0 (p 465 58 61)) (.cons (.cint (6) 0 (p 465 63 64)) .nil)) (p 465 48 57) (p 465 48 65)) (p 465 32 66)) (.cons (.cint (2) 0 (p 465 68 69)) .nil)) (p 465 21 31) (p 465 21 70)) (.cons (.tup (.cons (.loc 5 (p 465 73 78)) (.cons (.loc 6 (p 465 80 85)) .nil)) 0 (p 465 72 86)) .nil))) 0 (p 465 15 87)) (p 465 8 87))
  .nil)))))) .nil ⟨456,4,465,87⟩)
  (.cons (.iff (.cmp .Eq (.loc 4 (p 466 7 10)) (.cint (8) 0 (p 466 14 15)) (p 466 7 15)) (.cons (.ret (.tup (.cons (.cstr "i" 0 (p 467 16 19)) (.cons (.bin .sub (.cal 48 (.cons (.loc 0 (p 467 31 34)) (.cons (.cint (96) 0 (p 467 36 38)) .nil)) (p 467 21 30) (p 467 21 39)) (.cint (40) 0 (p 467 42 44)) (p 467 21 44)) .nil)) 0 (p 467 15 45)) (p 467 8 45))
  .nil) .nil ⟨466,4,467,45⟩)
  (.cons (.iff (.cmp .Eq (.loc 4 (p 468 7 10)) (.cint (7) 0 (p 468 14 15)) (p 468 7 15)) (.cons (.ret (.tup (.cons (.cstr "a" 0 (p 469 16 19)) (.cons (.met (.loc 1 (p 469 21 26)) 0 (.cons (.idx (.bin .add (.loc 2 (p 469 33 38)) (.lst (.cons (.cstr "b" 0 (p 469 42 45)) (.cons (.cstr "$VAR" 0 (p 469 47 53)) .nil)) (p 469 41 54)) (p 469 33 54)) (.cal 48 (.cons (.loc 0 (p 469 66 69)) (.cons (.cint (7) 0 (p 469 71 72)) .nil)) (p 469 56 65) (p 469 56 73)) (p 469 32 74)) .nil) (p 469 21 31) (p 469 21 75)) .nil)) 0 (p 469 15 76)) (p 469 8 76))
  .nil) .nil ⟨468,4,469,76⟩)
  (.cons (.ret (.tup (.cons (.cstr "v" 0 (p 470 12 15)) (.cons (.cal 48 (.cons (.loc 0 (p 470 27 30)) (.cons (.cint (3) 0 (p 470 32 33)) .nil)) (p 470 17 26) (p 470 17 34)) .nil)) 0 (p 470 11 35)) (p 470 4 35))
  .nil)))))
noncomputable def sc54 : Scope := ⟨.function, [(Str.ofString "row", .local), (Str.ofString "names", .local), (Str.ofString "words", .local), (Str.ofString "deep", .local), (Str.ofString "way", .local), (Str.ofString "first", .local), (Str.ofString "other", .local), (Str.ofString "_law_next", .globalImplicit), (Str.ofString "_law_sown", .globalImplicit), (Str.ofString "F_CURLY", .globalImplicit), (Str.ofString "F_DOT", .globalImplicit), (Str.ofString "A_NIL", .globalImplicit)], false, false, []⟩
noncomputable def fh54 : FnI := ⟨504, "_law_sown", Str.ofString "_law_sown", sc54, ⟨[], [], none, [], [], none, []⟩, [], ns54, 4, []⟩
noncomputable def ns55 : List String := ["names", "term", "met", "a", "part"]
noncomputable def ir55 : Ss := (.cons (.iff (.cmp .Eq (.idx (.loc 1 (p 472 7 11)) (.cint (0) 0 (p 472 12 13)) (p 472 7 14)) (.cstr "a" 0 (p 472 18 21)) (p 472 7 21)) (.cons (.asg (.nm 2 (p 473 8 11)) (.bin .add (.loc 2 (p 473 14 17)) (.lst (.cons (.tup (.cons (.cstr "before" 0 (p 473 22 30)) (.cons (.idx (.loc 1 (p 473 32 36)) (.cint (1) 0 (p 473 37 38)) (p 473 32 39)) .nil)) 0 (p 473 21 40)) (.cons (.tup (.cons (.cstr "between" 0 (p 473 43 52)) (.cons (.idx (.loc 1 (p 473 54 58)) (.cint (1) 0 (p 473 59 60)) (p 473 54 61)) .nil)) 0 (p 473 42 62)) (.cons (.tup (.cons (.cstr "behind" 0 (p 473 65 73)) (.cons (.idx (.loc 1 (p 473 75 79)) (.cint (1) 0 (p 473 80 81)) (p 473 75 82)) .nil)) 0 (p 473 64 83)) .nil))) (p 473 20 84)) (p 473 14 84)) (p 473 8 84))
  .nil) (.cons (.iff (.cmp .Eq (.idx (.loc 1 (p 474 9 13)) (.cint (0) 0 (p 474 14 15)) (p 474 9 16)) (.cstr "s" 0 (p 474 20 23)) (p 474 9 23)) (.cons (.asg (.nm 3 (p 475 8 9)) (.met (.loc 0 (p 475 12 17)) 4 (.cons (.idx (.loc 1 (p 475 23 27)) (.cint (1) 0 (p 475 28 29)) (p 475 23 30)) .nil) (p 475 12 22) (p 475 12 31)) (p 475 8 31))
  (.cons (.iff (.cmp .Eq (.bi .len (.cons (.idx (.loc 1 (p 476 15 19)) (.cint (2) 0 (p 476 20 21)) (p 476 15 22)) .nil) (p 476 11 14) (p 476 11 23)) (.cint (2) 0 (p 476 27 28)) (p 476 11 28)) (.cons (.asg (.nm 2 (p 477 12 15)) (.bin .add (.loc 2 (p 477 18 21)) (.lst (.cons (.tup (.cons (.cstr "between" 0 (p 477 26 35)) (.cons (.loc 3 (p 477 37 38)) .nil)) 0 (p 477 25 39)) .nil) (p 477 24 40)) (p 477 18 40)) (p 477 12 40))
  .nil) (.cons (.asg (.nm 2 (p 479 12 15)) (.bin .add (.loc 2 (p 479 18 21)) (.lst (.cons (.tup (.cons (.cstr "before" 0 (p 479 26 34)) (.cons (.loc 3 (p 479 36 37)) .nil)) 0 (p 479 25 38)) (.cons (.tup (.cons (.cstr "behind" 0 (p 479 41 49)) (.cons (.loc 3 (p 479 51 52)) .nil)) 0 (p 479 40 53)) .nil)) (p 479 24 54)) (p 479 18 54)) (p 479 12 54))
  .nil) ⟨476,8,479,54⟩)
  (.cons (.for_ (.nm 4 (p 480 12 16)) .over (.idx (.loc 1 (p 480 20 24)) (.cint (2) 0 (p 480 25 26)) (p 480 20 27)) (.cons (.asg (.nm 2 (p 481 12 15)) (.cal 55 (.cons (.loc 0 (p 481 31 36)) (.cons (.loc 4 (p 481 38 42)) (.cons (.loc 2 (p 481 44 47)) .nil))) (p 481 18 30) (p 481 18 48)) (p 481 12 48))
  .nil) ⟨480,8,481,48⟩)
  .nil))) .nil ⟨474,4,481,48⟩)
  .nil) ⟨472,4,481,48⟩)
  (.cons (.ret (.loc 2 (p 482 11 14)) (p 482 4 14))
  .nil))
noncomputable def sc55 : Scope := ⟨.function, [(Str.ofString "names", .local), (Str.ofString "term", .local), (Str.ofString "met", .local), (Str.ofString "a", .local), (Str.ofString "part", .local), (Str.ofString "len", .globalImplicit), (Str.ofString "_law_entries", .globalImplicit)], false, false, []⟩
noncomputable def fh55 : FnI := ⟨511, "_law_entries", Str.ofString "_law_entries", sc55, ⟨[], [], none, [], [], none, []⟩, [], ns55, 3, []⟩
noncomputable def gt0 : List (String × D) := [("A_NIL", (.int (0))), ("A_MINUS", (.int (3))), ("A_COMMA", (.int (7))), ("A_BAR", (.int (8))), ("F_DOT", (.int (0))), ("F_CURLY", (.int (9))), ("F_VARNAME", (.int (17))), ("COMMA_PRIORITY", (.int (1000))), ("PREFIX_TYPES", (.tup [(.str (codes "fx")), (.str (codes "fy"))])), ("INFIX_TYPES", (.tup [(.str (codes "xfx")), (.str (codes "xfy")), (.str (codes "yfx"))])), ("POSTFIX_TYPES", (.tup [(.str (codes "xf")), (.str (codes "yf"))])), ("WHOLE_PRIORITY", (.int (1201))), ("ARGUMENT_PRIORITY", (.int (999)))]
noncomputable def P1 : Pg := ⟨gt0, [fh0, fh1, fh2, fh3, fh4, fh5, fh6, fh7, fh8, fh9, fh10, fh11, fh12, fh13, fh14, fh15, fh16, fh17, fh18, fh19, fh20, fh21, fh22, fh23, fh24, fh25, fh26, fh27, fh28, fh29, fh30, fh31, fh32, fh33, fh34, fh35, fh36, fh37, fh38, fh39, fh40, fh41, fh42, fh43, fh44, fh45, fh46, fh47, fh48, fh49, fh50, fh51, fh52, fh53, fh54, fh55], [122, 217, 472], ["Symbols", "OperatorTable", "Writer"], ["texts", "atom_numbers", "functors", "functor_numbers", "symbols", "prefixes", "infixes", "postfixes", "operators", "quoted", "ignore_ops", "numbervars", "names", "taken", "out", "last", "prefixed", "work", "zfill"], ["atom", "text", "functor", "func", "name", "arity", "prefix", "infix", "postfix", "is_operator", "table_of", "add", "raw", "token", "needs_space", "later", "write", "variable_text", "is_numbered", "write_atom", "write_list", "write_functional", "shape", "write_operation", "left_limit", "prefix_operator", "infix_operator", "postfix_operator"], [[(0, 3), (1, 4), (2, 5), (3, 6), (4, 7), (5, 8)], [(6, 21), (7, 22), (8, 23), (9, 24), (10, 25), (11, 26)], [(1, 31), (12, 32), (13, 33), (14, 34), (15, 35), (16, 36), (17, 52), (18, 37), (19, 38), (20, 39), (21, 40), (22, 41), (23, 42), (24, 43), (25, 44), (26, 45), (27, 46)]], [2, 20, 30]⟩
noncomputable def fi0 : FnI := { fh0 with body := toSs P1 ns0 ir0 }
noncomputable def fi1 : FnI := { fh1 with body := toSs P1 ns1 ir1 }
noncomputable def fi2 : FnI := { fh2 with body := toSs P1 ns2 ir2 }
noncomputable def fi3 : FnI := { fh3 with body := toSs P1 ns3 ir3 }
noncomputable def fi4 : FnI := { fh4 with body := toSs P1 ns4 ir4 }
noncomputable def fi5 : FnI := { fh5 with body := toSs P1 ns5 ir5 }
noncomputable def fi6 : FnI := { fh6 with body := toSs P1 ns6 ir6 }
noncomputable def fi7 : FnI := { fh7 with body := toSs P1 ns7 ir7 }
noncomputable def fi8 : FnI := { fh8 with body := toSs P1 ns8 ir8 }
noncomputable def fi9 : FnI := { fh9 with body := toSs P1 ns9 ir9 }
noncomputable def fi10 : FnI := { fh10 with body := toSs P1 ns10 ir10 }
noncomputable def fi11 : FnI := { fh11 with body := toSs P1 ns11 ir11 }
noncomputable def fi12 : FnI := { fh12 with body := toSs P1 ns12 ir12 }
noncomputable def fi13 : FnI := { fh13 with body := toSs P1 ns13 ir13 }
noncomputable def fi14 : FnI := { fh14 with body := toSs P1 ns14 ir14 }
noncomputable def fi15 : FnI := { fh15 with body := toSs P1 ns15 ir15 }
noncomputable def fi16 : FnI := { fh16 with body := toSs P1 ns16 ir16 }
noncomputable def fi17 : FnI := { fh17 with body := toSs P1 ns17 ir17 }
noncomputable def fi18 : FnI := { fh18 with body := toSs P1 ns18 ir18 }
noncomputable def fi19 : FnI := { fh19 with body := toSs P1 ns19 ir19 }
noncomputable def fi20 : FnI := { fh20 with body := toSs P1 ns20 ir20 }
noncomputable def fi21 : FnI := { fh21 with body := toSs P1 ns21 ir21 }
noncomputable def fi22 : FnI := { fh22 with body := toSs P1 ns22 ir22 }
noncomputable def fi23 : FnI := { fh23 with body := toSs P1 ns23 ir23 }
noncomputable def fi24 : FnI := { fh24 with body := toSs P1 ns24 ir24 }
noncomputable def fi25 : FnI := { fh25 with body := toSs P1 ns25 ir25 }
noncomputable def fi26 : FnI := { fh26 with body := toSs P1 ns26 ir26 }
noncomputable def fi27 : FnI := { fh27 with body := toSs P1 ns27 ir27 }
noncomputable def fi28 : FnI := { fh28 with body := toSs P1 ns28 ir28 }
noncomputable def fi29 : FnI := { fh29 with body := toSs P1 ns29 ir29 }
noncomputable def fi30 : FnI := { fh30 with body := toSs P1 ns30 ir30 }
noncomputable def fi31 : FnI := { fh31 with body := toSs P1 ns31 ir31 }
noncomputable def fi32 : FnI := { fh32 with body := toSs P1 ns32 ir32 }
noncomputable def fi33 : FnI := { fh33 with body := toSs P1 ns33 ir33 }
noncomputable def fi34 : FnI := { fh34 with body := toSs P1 ns34 ir34 }
noncomputable def fi35 : FnI := { fh35 with body := toSs P1 ns35 ir35 }
noncomputable def fi36 : FnI := { fh36 with body := toSs P1 ns36 ir36 }
noncomputable def fi37 : FnI := { fh37 with body := toSs P1 ns37 ir37 }
noncomputable def fi38 : FnI := { fh38 with body := toSs P1 ns38 ir38 }
noncomputable def fi39 : FnI := { fh39 with body := toSs P1 ns39 ir39 }
noncomputable def fi40 : FnI := { fh40 with body := toSs P1 ns40 ir40 }
noncomputable def fi41 : FnI := { fh41 with body := toSs P1 ns41 ir41 }
noncomputable def fi42 : FnI := { fh42 with body := toSs P1 ns42 ir42 }
noncomputable def fi43 : FnI := { fh43 with body := toSs P1 ns43 ir43 }
noncomputable def fi44 : FnI := { fh44 with body := toSs P1 ns44 ir44 }
noncomputable def fi45 : FnI := { fh45 with body := toSs P1 ns45 ir45 }
noncomputable def fi46 : FnI := { fh46 with body := toSs P1 ns46 ir46 }
noncomputable def fi47 : FnI := { fh47 with body := toSs P1 ns47 ir47 }
noncomputable def fi48 : FnI := { fh48 with body := toSs P1 ns48 ir48 }
noncomputable def fi49 : FnI := { fh49 with body := toSs P1 ns49 ir49 }
noncomputable def fi50 : FnI := { fh50 with body := toSs P1 ns50 ir50 }
noncomputable def fi51 : FnI := { fh51 with body := toSs P1 ns51 ir51 }
noncomputable def fi52 : FnI := { fh52 with body := toSs P1 ns52 ir52 }
noncomputable def fi53 : FnI := { fh53 with body := toSs P1 ns53 ir53 }
noncomputable def fi54 : FnI := { fh54 with body := toSs P1 ns54 ir54 }
noncomputable def fi55 : FnI := { fh55 with body := toSs P1 ns55 ir55 }
noncomputable def P0 : Pg := { P1 with fns := [fi0, fi1, fi2, fi3, fi4, fi5, fi6, fi7, fi8, fi9, fi10, fi11, fi12, fi13, fi14, fi15, fi16, fi17, fi18, fi19, fi20, fi21, fi22, fi23, fi24, fi25, fi26, fi27, fi28, fi29, fi30, fi31, fi32, fi33, fi34, fi35, fi36, fi37, fi38, fi39, fi40, fi41, fi42, fi43, fi44, fi45, fi46, fi47, fi48, fi49, fi50, fi51, fi52, fi53, fi54, fi55] }
noncomputable def irs0 : List Ss := [ir0, ir1, ir2, ir3, ir4, ir5, ir6, ir7, ir8, ir9, ir10, ir11, ir12, ir13, ir14, ir15, ir16, ir17, ir18, ir19, ir20, ir21, ir22, ir23, ir24, ir25, ir26, ir27, ir28, ir29, ir30, ir31, ir32, ir33, ir34, ir35, ir36, ir37, ir38, ir39, ir40, ir41, ir42, ir43, ir44, ir45, ir46, ir47, ir48, ir49, ir50, ir51, ir52, ir53, ir54, ir55]
noncomputable def nsL : List String := ["script", "row", "names", "quoting", "ignoring", "most", "words", "kinds", "first", "other", "turn", "kind", "height", "a", "term", "met", "crowd", "told", "again"]
noncomputable def irL : Ss := (.cons (.asg (.nm 1 (p 484 4 7)) (.cal 47 (.cons (.loc 0 (p 484 19 25)) .nil) (p 484 10 18) (p 484 10 26)) (p 484 4 26))
  (.cons (.asg (.nm 2 (p 485 4 9)) (.new 0 .nil (p 485 12 19) (p 485 12 21)) (p 485 4 21))
  (.cons (.asg (.nm 3 (p 486 4 11)) (.cmp .Eq (.cal 48 (.cons (.loc 1 (p 486 24 27)) (.cons (.cint (2) 0 (p 486 29 30)) .nil)) (p 486 14 23) (p 486 14 31)) (.cint (0) 0 (p 486 35 36)) (p 486 14 36)) (p 486 4 36))
  (.cons (.asg (.nm 4 (p 487 4 12)) (.cmp .Eq (.cal 48 (.cons (.loc 1 (p 487 25 28)) (.cons (.cint (4) 0 (p 487 30 31)) .nil)) (p 487 15 24) (p 487 15 32)) (.cint (3) 0 (p 487 36 37)) (p 487 15 37)) (p 487 4 37))
  (.cons (.asg (.nm 5 (p 488 4 8)) (.idx (.lst (.cons (.cint (1201) 0 (p 488 12 16)) (.cons (.cint (999) 0 (p 488 18 21)) (.cons (.cint (1200) 0 (p 488 23 27)) (.cons (.cint (500) 0 (p 488 29 32)) (.cons (.cint (0) 0 (p 488 34 35)) .nil))))) (p 488 11 36)) (.cal 48 (.cons (.loc 1 (p 488 47 50)) (.cons (.cint (5) 0 (p 488 52 53)) .nil)) (p 488 37 46) (p 488 37 54)) (p 488 11 55)) (p 488 4 55))
  (.cons (.asg (.nm 6 (p 489 4 9)) (.lst (.cons (.cstr "-" 0 (p 489 13 16)) (.cons (.cstr "foo" 0 (p 489 18 23)) (.cons (.cstr "^" 0 (p 489 25 28)) (.cons (.cstr "my op" 0 (p 489 30 37)) (.cons (.cstr "~" 0 (p 489 39 42)) .nil))))) (p 489 12 43)) (p 489 4 43))
  (.cons (.asg (.nm 7 (p 490 4 9)) (.lst (.cons (.cstr "yfx" 0 (p 490 13 18)) (.cons (.cstr "fy" 0 (p 490 20 24)) (.cons (.cstr "xfy" 0 (p 490 26 31)) (.cons (.cstr "xfx" 0 (p 490 33 38)) (.cons (.cstr "fx" 0 (p 490 40 44)) (.cons (.cstr "xf" 0 (p 490 46 50)) (.cons (.cstr "yf" 0 (p 490 52 56)) .nil))))))) (p 490 12 57)) (p 490 4 57))
  (.cons (.asg (.nm 8 (p 491 4 9)) (.new 1 (.cons (.loc 2 (p 491 26 31)) (.cons (.cboo false 0 (p 491 33 38)) .nil)) (p 491 12 25) (p 491 12 39)) (p 491 4 39))
  (.cons (.asg (.nm 9 (p 492 4 9)) (.new 1 (.cons (.loc 2 (p 492 26 31)) (.cons (.cboo false 0 (p 492 33 38)) .nil)) (p 492 12 25) (p 492 12 39)) (p 492 4 39))
  (.cons (.for_ (.nm 10 (p 493 8 12)) (.range (p 493 16 21) (p 493 16 44)) (.bin .add (.cint (3) 0 (p 493 22 23)) (.cal 48 (.cons (.loc 1 (p 493 36 39)) (.cons (.cint (5) 0 (p 493 41 42)) .nil)) (p 493 26 35) (p 493 26 43)) (p 493 22 43)) (.cons (.asg (.nm 11 (p 494 8 12)) (.idx (.loc 7 (p 494 15 20)) (.cal 48 (.cons (.loc 1 (p 494 31 34)) (.cons (.cint (7) 0 (p 494 36 37)) .nil)) (p 494 21 30) (p 494 21 38)) (p 494 15 39)) (p 494 8 39))
  (.cons (.asg (.nm 12 (p 495 8 14)) (.idx (.lst (.cons (.cint (500) 0 (p 495 18 21)) (.cons (.cint (200) 0 (p 495 23 26)) (.cons (.cint (1000) 0 (p 495 28 32)) (.cons (.cint (1200) 0 (p 495 34 38)) (.cons (.cint (1) 0 (p 495 40 41)) .nil))))) (p 495 17 42)) (.cal 48 (.cons (.loc 1 (p 495 53 56)) (.cons (.cint (5) 0 (p 495 58 59)) .nil)) (p 495 43 52) (p 495 43 60)) (p 495 17 61)) (p 495 8 61))
  (.cons (.asg (.nm 13 (p 496 8 9)) (.met (.loc 2 (p 496 12 17)) 0 (.cons (.idx (.loc 6 (p 496 23 28)) (.bin .mod (.bin .add (.loc 10 (p 496 30 34)) (.cal 48 (.cons (.loc 1 (p 496 47 50)) (.cons (.cint (5) 0 (p 496 52 53)) .nil)) (p 496 37 46) (p 496 37 54)) (p 496 30 54)) (.cint (5) 0 (p 496 58 59)) (p 496 29 59)) (p 496 23 60)) .nil) (p 496 12 22) (p 496 12 61)) (p 496 8 61))
  (.cons (.exp (.met (.loc 8 (p 497 8 13)) 11 (.cons (.loc 12 (p 497 18 24)) (.cons (.loc 11 (p 497 26 30)) (.cons (.loc 13 (p 497 32 33)) .nil))) (p 497 8 17) (p 497 8 34)) (p 497 8 34))
  (.cons (.exp (.met (.loc 9 (p 498 8 13)) 11 (.cons (.loc 12 (p 498 18 24)) (.cons (.loc 11 (p 498 26 30)) (.cons (.loc 13 (p 498 32 33)) .nil))) (p 498 8 17) (p 498 8 34)) (p 498 8 34))
  .nil))))) ⟨493,4,498,34⟩)
  (.cons (.asg (.nm 14 (p 499 4 8)) (.cal 54 (.cons (.loc 1 (p 499 21 24)) (.cons (.loc 2 (p 499 26 31)) (.cons (.loc 6 (p 499 33 38)) (.cons (.cint (0) 0 (p 499 40 41)) .nil)))) (p 499 11 20) (p 499 11 42)) (p 499 4 42))
  (.cons (.asg (.nm 15 (p 500 4 7)) (.cal 55 (.cons (.loc 2 (p 500 23 28)) (.cons (.loc 14 (p 500 30 34)) (.cons (.lst .nil (p 500 36 38)) .nil))) (p 500 10 22) (p 500 10 39)) (p 500 4 39))
  (.cons (.asg (.nm 16 (p 501 4 9)) (.bin .add (.loc 6 (p 501 12 17)) (.lst (.cons (.cstr "," 0 (p 501 21 24)) (.cons (.cstr "b" 0 (p 501 26 29)) (.cons (.cstr "$VAR" 0 (p 501 31 37)) (.cons (.cstr "{}" 0 (p 501 39 43)) (.cons (.cstr "g" 0 (p 501 45 48)) .nil))))) (p 501 20 49)) (p 501 12 49)) (p 501 4 49))
  (.cons (.for_ (.nm 10 (p 502 8 12)) (.range (p 502 16 21) (p 502 16 44)) (.bin .add (.cint (1) 0 (p 502 22 23)) (.cal 48 (.cons (.loc 1 (p 502 36 39)) (.cons (.cint (6) 0 (p 502 41 42)) .nil)) (p 502 26 35) (p 502 26 43)) (p 502 22 43)) (.cons (.asg (.nm 13 (p 503 8 9)) (.met (.loc 2 (p 503 12 17)) 0 (.cons (.idx (.loc 16 (p 503 23 28)) (.cal 48 (.cons (.loc 1 (p 503 39 42)) (.cons (.cint (10) 0 (p 503 44 46)) .nil)) (p 503 29 38) (p 503 29 47)) (p 503 23 48)) .nil) (p 503 12 22) (p 503 12 49)) (p 503 8 49))
  (.cons (.asg (.nm 11 (p 504 8 12)) (.idx (.loc 7 (p 504 15 20)) (.cal 48 (.cons (.loc 1 (p 504 31 34)) (.cons (.cint (7) 0 (p 504 36 37)) .nil)) (p 504 21 30) (p 504 21 38)) (p 504 15 39)) (p 504 8 39))
  (.cons (.asg (.nm 12 (p 505 8 14)) (.idx (.lst (.cons (.cint (1200) 0 (p 505 18 22)) (.cons (.cint (500) 0 (p 505 24 27)) (.cons (.cint (0) 0 (p 505 29 30)) (.cons (.cint (1) 0 (p 505 32 33)) .nil)))) (p 505 17 34)) (.cal 48 (.cons (.loc 1 (p 505 45 48)) (.cons (.cint (4) 0 (p 505 50 51)) .nil)) (p 505 35 44) (p 505 35 52)) (p 505 17 53)) (p 505 8 53))
  (.cons (.iff (.cmp .NotIn (.tup (.cons (.cal 53 (.cons (.loc 11 (p 506 22 26)) .nil) (p 506 12 21) (p 506 12 27)) (.cons (.loc 13 (p 506 29 30)) .nil)) 0 (p 506 11 31)) (.loc 15 (p 506 39 42)) (p 506 11 42)) (.cons (.exp (.met (.loc 9 (p 507 12 17)) 11 (.cons (.loc 12 (p 507 22 28)) (.cons (.loc 11 (p 507 30 34)) (.cons (.loc 13 (p 507 36 37)) .nil))) (p 507 12 21) (p 507 12 38)) (p 507 12 38))
  .nil) .nil ⟨506,8,507,38⟩)
  .nil)))) ⟨502,4,507,38⟩)
  (.cons (.for_ (.nm 13 (p 508 8 9)) .over (.comp (.met 2 "word" 0 (p 508 14 19) (p 508 14 24) (p 508 25 29) (p 508 14 30)) (.loc 16 (p 508 43 48)) (p 508 35 39) ⟨.function, [(Str.ofString ".0", .local), (Str.ofString "word", .local), (Str.ofString "names", .free)], false, false, []⟩ (p 508 13 49)) (.cons (.iff (.bool .And (.cons (.cmp .In (.tup (.cons (.cstr "before" 0 (p 509 12 20)) (.cons (.loc 13 (p 509 22 23)) .nil)) 0 (p 509 11 24)) (.loc 15 (p 509 28 31)) (p 509 11 31)) (.cons (.cmp .In (.tup (.cons (.cstr "between" 0 (p 509 37 46)) (.cons (.loc 13 (p 509 48 49)) .nil)) 0 (p 509 36 50)) (.loc 15 (p 509 54 57)) (p 509 36 57)) (.cons (.cmp .NotEq (.met (.loc 8 (p 509 63 68)) 9 (.cons (.loc 13 (p 509 81 82)) .nil) (p 509 63 80) (p 509 63 83)) (.met (.loc 9 (p 509 87 92)) 9 (.cons (.loc 13 (p 509 105 106)) .nil) (p 509 87 104) (p 509 87 107)) (p 509 63 107)) .nil))) (p 509 11 108)) (.cons (.ret (.cboo false 0 (p 510 19 24)) (p 510 12 24))
  .nil) .nil ⟨509,8,510,24⟩)
  .nil) ⟨508,4,510,24⟩)
  (.cons (.asg (.nm 17 (p 511 4 8)) (.new 2 (.cons (.loc 2 (p 511 18 23)) (.cons (.loc 8 (p 511 25 30)) (.cons (.loc 3 (p 511 32 39)) (.cons (.loc 4 (p 511 41 49)) .nil)))) (p 511 11 17) (p 511 11 50)) (p 511 4 50))
  (.cons (.asg (.nm 18 (p 512 4 9)) (.new 2 (.cons (.loc 2 (p 512 19 24)) (.cons (.loc 9 (p 512 26 31)) (.cons (.loc 3 (p 512 33 40)) (.cons (.loc 4 (p 512 42 50)) .nil)))) (p 512 12 18) (p 512 12 51)) (p 512 4 51))
  (.cons (.ret (.cmp .Eq (.met (.loc 17 (p 513 11 15)) 1 (.cons (.loc 14 (p 513 21 25)) (.cons (.loc 5 (p 513 27 31)) .nil)) (p 513 11 20) (p 513 11 32)) (.met (.loc 18 (p 513 36 41)) 1 (.cons (.loc 14 (p 513 47 51)) (.cons (.loc 5 (p 513 53 57)) .nil)) (p 513 36 46) (p 513 36 58)) (p 513 11 58)) (p 513 4 58))
  .nil))))))))))))))))))
end Mn
end
section
namespace Mn
structure Wk (CW NW : Nat → CallT) : Prop where
  c : ∀ {n f : Nat} {fi : FnI} {ir : Ss} {vs : List AV} {st : List AO} {Q : AV → List AO → Prop}, P0.fns[f]? = some fi → irs0[f]? = some ir → (decide (vs.length ≤ fi.npar) && decide (fi.npar ≤ vs.length + fi.defs.length)) = true → wpSs P0 (CW n) (NW n) ir (argVars fi vs) st (retQ Q) → CW (n + 1) f vs st Q
  n : ∀ {n c f : Nat} {vs : List AV} {st : List AO} {Q : AV → List AO → Prop}, c < P0.clss.length → P0.inits[c]? = some f → CW n f (.ob st.length :: vs) (st ++ [.ins c []]) (fun v st' => v = .d .non ∧ Q (.ob st.length) st') → NW (n + 1) c vs st Q
noncomputable def RC (C : CallT) (f : Nat) (vs : List AV) (st : List AO) (v : AV) (st' : List AO) : Prop := ∀ Q : AV → List AO → Prop, Q v st' → C f vs st Q
section
variable {st : List AO} {Q : AV → List AO → Prop}
theorem ifT {c : Prop} [Decidable c] {A B : Prop} (h : c) (a : A) : if c then A else B := by rw [if_pos h]; exact a
theorem ifF {c : Prop} [Decidable c] {A B : Prop} (h : ¬ c) (a : B) : if c then A else B := by rw [if_neg h]; exact a
theorem ifC {c : Prop} [Decidable c] {A B : Prop} (a : c → A) (b : ¬ c → B) : if c then A else B := by
  by_cases h : c
  · rw [if_pos h]; exact a h
  · rw [if_neg h]; exact b h
theorem ifB {b d : Bool} {A B : Prop} (x : b = d → A) (y : b = !d → B) : if b = d then A else B := by
  by_cases h : b = d
  · rw [if_pos h]; exact x h
  · rw [if_neg h]; exact y (by cases b <;> cases d <;> first | rfl | exact absurd rfl h)
theorem exC {op : CmpOp} {x y : AV} {b : Bool} {K : Bool → Prop} (h : CA st op x y b) (k : K b) : ∃ r, CA st op x y r ∧ K r := ⟨b, h, k⟩
theorem exB {f : BI} {l : List AV} {v : AV} {K : AV → Prop} (h : BiR st f l v) (k : K v) : ∃ r, BiR st f l r ∧ K r := ⟨v, h, k⟩
theorem exO {o : BO} {x y v : AV} {K : AV → Prop} (h : BinR o x y v) (k : K v) : ∃ r, BinR o x y r ∧ K r := ⟨v, h, k⟩
theorem exI {x y v : AV} {K : AV → Prop} (h : IdxR st x y v) (k : K v) : ∃ r, IdxR st x y r ∧ K r := ⟨v, h, k⟩
theorem exM {m : MB} {a v : AV} {l : List AV} {st' : List AO} {K : AV → List AO → Prop} (h : MbR st m a l v st') (k : K v st') : ∃ r st', MbR st m a l r st' ∧ K r st' := ⟨v, st', h, k⟩
theorem exF {k : IK} {v : AV} {l : List D} {K : List D → Prop} (h : ItR k v l) (q : K l) : ∃ l, ItR k v l ∧ K l := ⟨l, h, q⟩
theorem exT {v : AV} {b : Bool} {K : Bool → Prop} (h : TrR st v b) (k : K b) : ∃ b, TrR st v b ∧ K b := ⟨b, h, k⟩
theorem ex3 {α β γ : Type} {p : α → β → γ → Prop} (a : α) (b : β) (c : γ) (h : p a b c) : ∃ a b c, p a b c := ⟨a, b, c, h⟩
theorem an {A B : Prop} (a : A) (b : B) : A ∧ B := ⟨a, b⟩
theorem CD.eqI {x y : Int} : CA st .Eq (.d (.int x)) (.d (.int y)) (x == y) := .d (.eq (.flat (.ii x y)))
theorem CD.eqS {x y : List Nat} : CA st .Eq (.d (.str x)) (.d (.str y)) (x == y) := .d (.eq (.flat (.ss x y)))
theorem CD.neS {x y : List Nat} : CA st .NotEq (.d (.str x)) (.d (.str y)) (!(x == y)) := .d (.ne (.flat (.ss x y)))
theorem qb {b b' : Bool} (q : Q (.d (.boo b)) st) (e : b = b') : Q (.d (.boo b')) st := e ▸ q
end
theorem idx_nat {l : List D} {i : Nat} {d : D} (h : l[i]? = some d) (hi : i < 4294967296) : idxL l (i : Int) d := by
  have hl : i < l.length := (List.getElem?_eq_some_iff.mp h).1
  refine ⟨hi, ?_⟩
  have hp : pyIdx (i : Int) l.length = some i := by
    show (if (if (i : Int) < 0 then _ else (i : Int)) ≥ 0 && _ then _ else none) = _
    rw [if_neg (Int.not_lt.mpr (Int.natCast_nonneg i)), if_pos (by simpa using hl)]; rfl
  rw [hp]
  exact h
theorem pyI {i m : Nat} (h : i < m) : pyIdx (i : Int) m = some i := by
  show (if (if (i : Int) < 0 then _ else (i : Int)) ≥ 0 && _ then _ else none) = _
  rw [if_neg (Int.not_lt.mpr (Int.natCast_nonneg i)), if_pos (by simpa using h)]; rfl
theorem ix0 {st : List AO} {x : D} {l : List D} : IdxR st (.d (.tup (x :: l))) (.d (.int 0)) (.d x) := .tup (idx_nat (i := 0) rfl (by decide))
theorem ix1 {st : List AO} {x y : D} {l : List D} : IdxR st (.d (.tup (x :: y :: l))) (.d (.int 1)) (.d y) := .tup (idx_nat (i := 1) rfl (by decide))
theorem ix2 {st : List AO} {x y z : D} {l : List D} : IdxR st (.d (.tup (x :: y :: z :: l))) (.d (.int 2)) (.d z) := .tup (idx_nat (i := 2) rfl (by decide))
theorem ixS {st : List AO} {f : Nat} {r : List Nat} : IdxR st (.d (.str (f :: r))) (.d (.int 0)) (.d (.str [f])) := .str (by decide) (by rw [show pyIdx 0 (f :: r).length = some 0 from pyI (i := 0) (Nat.zero_lt_succ _)]; rfl)
variable {CW NW : Nat → CallT} (K : Wk CW NW)
include K
noncomputable def digB (x : Int) : Bool := decide (48 ≤ x) && decide (x ≤ 57)
noncomputable def smaB (x : Int) : Bool := decide (97 ≤ x) && decide (x ≤ 122)
noncomputable def capB (x : Int) : Bool := decide (65 ≤ x) && decide (x ≤ 90)
noncomputable def alnB (x : Int) : Bool := smaB x || (capB x || (digB x || x == 95))
noncomputable def wordB (c : Nat) : Bool := alnB c || decide (128 ≤ (c : Int))
noncomputable def symB (c : Nat) : Bool := decide ((c : Int) < 128) && (codes "+-*/\\^<>=~:.?@#&$").contains c
theorem c_is_digit (n : Nat) (x : Int) (st : List AO) : RC (CW (n + 1)) 10 [.d (.int x)] st (.d (.boo (digB x))) st := by
  intro Q q
  refine K.c (fi := fi10) (ir := ir10) rfl rfl rfl ?_
  refine exC (.d (.le _ _)) (ifB (fun h => qb q ?_) fun h => exC (.d (.le _ _)) (qb q ?_)) <;> (unfold digB; rw [h]; rfl)
theorem c_is_small (n : Nat) (x : Int) (st : List AO) : RC (CW (n + 1)) 11 [.d (.int x)] st (.d (.boo (smaB x))) st := by
  intro Q q
  refine K.c (fi := fi11) (ir := ir11) rfl rfl rfl ?_
  refine exC (.d (.le _ _)) (ifB (fun h => qb q ?_) fun h => exC (.d (.le _ _)) (qb q ?_)) <;> (unfold smaB; rw [h]; rfl)
theorem c_is_capital (n : Nat) (x : Int) (st : List AO) : RC (CW (n + 1)) 12 [.d (.int x)] st (.d (.boo (capB x))) st := by
  intro Q q
  refine K.c (fi := fi12) (ir := ir12) rfl rfl rfl ?_
  refine exC (.d (.le _ _)) (ifB (fun h => qb q ?_) fun h => exC (.d (.le _ _)) (qb q ?_)) <;> (unfold capB; rw [h]; rfl)
theorem c_is_alnum (n : Nat) (x : Int) (st : List AO) : RC (CW (n + 2)) 13 [.d (.int x)] st (.d (.boo (alnB x))) st := by
  intro Q q
  refine K.c (fi := fi13) (ir := ir13) rfl rfl rfl ?_
  refine c_is_small K n _ _ _ (ifB (fun h => qb q ?_) fun h => c_is_capital K n _ _ _ (ifB (fun h' => qb q ?_) fun h' => c_is_digit K n _ _ _ (ifB (fun h2 => qb q ?_) fun h2 => exC CD.eqI (qb q ?_))))
  · unfold alnB; rw [h]; rfl
  · unfold alnB; rw [h, h']; rfl
  · unfold alnB; rw [h, h', h2]; rfl
  · unfold alnB; rw [h, h', h2]; rfl
theorem c_is_word (n : Nat) (c : Nat) (st : List AO) : RC (CW (n + 3)) 28 [.d (.str [c])] st (.d (.boo (wordB c))) st := by
  intro Q q
  refine K.c (fi := fi28) (ir := ir28) rfl rfl rfl ?_
  refine exB (.ord _) (c_is_alnum K n _ _ _ (ifB (fun h => qb q ?_) fun h => exC (.d (.ge _ _)) (qb q ?_))) <;> (unfold wordB; rw [h]; rfl)
theorem c_is_symbol (n : Nat) (c : Nat) (st : List AO) : RC (CW (n + 1)) 14 [.d (.int c)] st (.d (.boo (symB c))) st := by
  intro Q q
  refine K.c (fi := fi14) (ir := ir14) rfl rfl rfl ?_
  refine exC (.d (.le _ _)) ?_
  refine exC (.d (.lt _ _)) ?_
  refine ifB (fun h => ?_) fun h => ?_
  · refine qb q ?_
    unfold symB; rw [h]; rfl
  · have h1 := of_decide_eq_true h
    refine exB (.chr (by omega)) (exC (.d (.inS _ _)) (qb q ?_))
    unfold symB; rw [h]; rfl
structure Bs where
  row : List D
  texts : List D
  an : AO
  fs : List D
  fn : AO
  pre : AO
  inf : AO
  post : AO
  qt : Bool
  ig : Bool
  oo : List D
  ow : List D
noncomputable def bst (b : Bs) (rest : List AO) : List AO :=
  .lst b.row :: .ins 0 [(0, .ob 2), (1, .ob 3), (2, .ob 4), (3, .ob 5)] :: .lst b.texts :: b.an :: .lst b.fs :: b.fn ::
  .ins 1 [(4, .ob 1), (5, .ob 7), (6, .ob 8), (7, .ob 9)] :: b.pre :: b.inf :: b.post :: rest
noncomputable def wst (b : Bs) (out work : List D) (last : List Nat) (pf : Bool) : List AO :=
  bst b [.ins 2 [(4, .ob 1), (8, .ob 6), (9, .d (.boo b.qt)), (10, .d (.boo b.ig)), (11, .d (.boo false)), (12, .ob 11), (13, .ob 12), (14, .ob 15), (15, .d (.str last)), (16, .d (.boo pf)), (17, .ob 16)],
    .d0, .d0, .lst b.oo, .lst b.ow, .lst out, .lst work]
theorem c_raw (n : Nat) (b : Bs) (out work : List D) (last : List Nat) (pf : Bool) (u : List Nat) (c : Nat) (hu : u.length + 1 ≤ big) (ho : out.length ≤ big) :
    RC (CW (n + 1)) 32 [.ob 10, .d (.str (u ++ [c]))] (wst b out work last pf) (.d .non) (wst b (out ++ [.str (u ++ [c])]) work [c] false) := by
  intro Q q
  refine K.c (fi := fi32) (ir := ir32) rfl rfl rfl ?_
  have e1 : (!(u ++ [c] == codes "")) = true := by cases u <;> rfl
  have hb : big = 16777216 := rfl
  have hlen : (u ++ [c]).length = u.length + 1 := List.length_append
  refine exC CD.neS (ifT e1 (an (.lst rfl rfl) (exM (.append _ rfl ho) ?_)))
  refine exB (.lenS (by rw [hlen]; exact hu)) (exO (.sub _ _) (exI (.str (c := c) ?_ ?_) ?_))
  · rw [hlen]; omega
  · rw [show (((u ++ [c]).length : Nat) : Int) - 1 = ((u.length : Nat) : Int) by rw [hlen]; omega, hlen, pyI (Nat.lt_succ_self _)]
    show (u ++ [c])[u.length]? = some c
    rw [List.getElem?_concat_length]
  · refine ex3 10 2 _ ⟨rfl, rfl, by exact Nat.le_of_ble_eq_true rfl, ?_⟩
    refine ex3 10 2 _ ⟨rfl, rfl, by exact Nat.le_of_ble_eq_true rfl, ?_⟩
    exact q
end Mn
end
section
namespace Mn
noncomputable def nsC (l : Nat) (pf : Bool) (f : Nat) : Bool := if l = 32 then false else if (pf && (f == 40 || (l == 45 && digB f))) = true then true else if wordB l = true then (wordB f || f == 39) else if symB l = true then symB f else (l == 39 && f == 39)
noncomputable def nsB (last : List Nat) (pf : Bool) (f : Nat) : Bool := match last with
  | [l] => nsC l pf f
  | _ => false
theorem codes1 : codes " " = [32] ∧ codes "(" = [40] ∧ codes "-" = [45] ∧ codes "'" = [39] ∧ codes "" = [] := by
  refine ⟨?_, ?_, ?_, ?_, ?_⟩ <;> kernel_rfl
theorem str1 (a c : Nat) : (([a] : List Nat) == [c]) = (a == c) := by
  show (a == c && true) = _
  rw [Bool.and_true]
theorem eq1 {st : List AO} {a c : Nat} {s : List Nat} (h : s = [c]) : CA st .Eq (.d (.str [a])) (.d (.str s)) (a == c) := by
  subst h; rw [← str1]; exact CD.eqS
variable {CW NW : Nat → CallT} (K : Wk CW NW)
include K
theorem c_needs (n : Nat) (b : Bs) (out work : List D) (last : List Nat) (pf : Bool) (f : Nat) (hl : last = [] ∨ ∃ l, last = [l]) :
    RC (CW (n + 4)) 34 [.ob 10, .d (.str [f])] (wst b out work last pf) (.d (.boo (nsB last pf f))) (wst b out work last pf) := by
  intro Q q
  refine K.c (fi := fi34) (ir := ir34) rfl rfl rfl ?_
  obtain ⟨q1, q2, q3, q4, q5⟩ := codes1
  rcases hl with rfl | ⟨l, rfl⟩
  · refine exC CD.eqS ?_
    rw [q5]; exact q
  replace q : Q (.d (.boo (nsC l pf f))) (wst b out work [l] pf) := q
  refine exC (b := false) ?_ ?_
  · rw [q5]; exact CD.eqS
  refine exC (eq1 q1) ?_
  refine ifC (fun h => ?_) (fun h => ?_)
  · refine qb q ?_
    unfold nsC; rw [if_pos (beq_iff_eq.mp h)]
  have h0 : ¬ l = 32 := fun e => h (beq_iff_eq.mpr e)
  have key : (pf && (f == 40 || (l == 45 && digB f))) = false → wpSs P0 (CW (n + 3)) (NW (n + 3)) (match ir34 with | .cons _ (.cons _ r) => r | _ => .nil) (argVars fi34 [.ob 10, .d (.str [f])]) (wst b out work [l] pf) (retQ Q) := by
    intro hn
    have hq : ∀ x, x = (if wordB l = true then (wordB f || f == 39) else if symB l = true then symB f else (l == 39 && f == 39)) → Q (.d (.boo x)) (wst b out work [l] pf) := by
      intro x e
      refine qb q (Eq.trans ?_ e.symm)
      unfold nsC; rw [if_neg h0, hn, if_neg Bool.false_ne_true]
    refine c_is_word K n l _ _ ?_
    refine ifC (fun hw => ?_) (fun hw => ?_)
    · rw [if_pos hw] at hq
      refine c_is_word K n f _ _ ?_
      refine ifB (fun hf => ?_) (fun hf => ?_)
      · exact hq _ (by rw [hf]; rfl)
      · refine exC (eq1 q4) ?_
        exact hq _ (by rw [hf]; rfl)
    · rw [if_neg hw] at hq
      refine exB (.ord _) ?_
      refine c_is_symbol K (n + 2) l _ _ ?_
      refine ifC (fun hs => ?_) (fun hs => ?_)
      · rw [if_pos hs] at hq
        refine exB (.ord _) ?_
        refine c_is_symbol K (n + 2) f _ _ ?_
        exact hq _ rfl
      · rw [if_neg hs] at hq
        refine exC (eq1 q4) ?_
        refine ifB (fun h3 => ?_) (fun h3 => ?_)
        · exact hq _ (by rw [h3]; rfl)
        · refine exC (eq1 q4) ?_
          exact hq _ (by rw [h3]; rfl)
  have yes : (pf && (f == 40 || (l == 45 && digB f))) = true → Q (.d (.boo true)) (wst b out work [l] pf) := by
    intro hy
    refine qb q ?_
    unfold nsC; rw [if_neg h0, if_pos hy]
  cases pf with
  | false => exact key rfl
  | true =>
    refine exC (eq1 q2) ?_
    refine ifB (fun h2 => ?_) (fun h2 => ?_)
    · refine ifT h2 (yes ?_)
      rw [h2]; rfl
    · refine exC (eq1 q3) ?_
      refine ifB (fun h3 => ?_) (fun h3 => ?_)
      · refine ifF (fun e => Bool.false_ne_true (h3.symm.trans e)) (key ?_)
        rw [h2, h3]; rfl
      · refine exB (.ord _) ?_
        refine c_is_digit K (n + 2) f _ _ ?_
        refine ifC (fun h4 => ?_) (fun h4 => ?_)
        · refine yes ?_
          rw [h2, h3, h4]; rfl
        · refine key ?_
          rw [h2, h3, eq_false_of_ne_true h4]; rfl
end Mn
end
section
namespace Mn
theorem big_eq : big = 16777216 := rfl
theorem ap1 {α : Type} (l : List α) (a : α) : (l ++ [a]).length = l.length + 1 := List.length_append
noncomputable def forB (s : Ss) (k : Nat) : Ss := match k, s with
  | 0, .cons (.for_ _ _ _ b _) _ => b
  | 0, .cons (.whl _ b _) _ => b
  | k + 1, .cons _ r => forB r k
  | _, _ => .nil
noncomputable def whlT (s : Ss) (k : Nat) : X := match k, s with
  | 0, .cons (.whl t _ _) _ => t
  | k + 1, .cons _ r => whlT r k
  | _, _ => .newl ⟨0, 0, 0, 0⟩
noncomputable def sp (last : List Nat) (pf : Bool) (f : Nat) : List D := if nsB last pf f = true then [.str [32]] else []
theorem sp_len (last : List Nat) (pf : Bool) (f : Nat) : (sp last pf f).length ≤ 1 := by
  unfold sp
  by_cases h : nsB last pf f = true
  · rw [if_pos h]; exact Nat.le_refl _
  · rw [if_neg h]; exact Nat.zero_le _
variable {CW NW : Nat → CallT} (K : Wk CW NW)
theorem later_loop {C N : CallT} (b : Bs) (out : List D) (last : List Nat) (pf : Bool) (items : Option AV) (p : Pos) (Q : Fl → Vars → List AO → Prop) : ∀ (l work : List D) (x : Option AV), work.length + l.length ≤ big → (∀ y, Q .nx [some (.ob 10), items, y] (wst b out (work ++ l) last pf)) →
    loopF (.nm 2 p) (fun vs st Q => wpSs P0 C N (forB ir35 0) vs st Q) l [some (.ob 10), items, x] (wst b out work last pf) Q := by
  intro l
  induction l with
  | nil => intro work x h q; rw [List.append_nil] at q; exact q x
  | cons d l ih =>
    intro work x h q
    rw [List.length_cons] at h
    refine an (.lst rfl rfl) (exM (.append d rfl (lin h)) ?_)
    refine ih (work ++ [d]) _ (by rw [ap1]; exact lin h) ?_
    rw [List.append_assoc]; exact q
include K
theorem c_later (n : Nat) (b : Bs) (out work : List D) (last : List Nat) (pf : Bool) (items : List D) (h : work.length + items.length ≤ big) :
    RC (CW (n + 1)) 35 [.ob 10, .d (.lst items)] (wst b out work last pf) (.d .non) (wst b out (work ++ items.reverse) last pf) := by
  intro Q q
  refine K.c (fi := fi35) (ir := ir35) rfl rfl rfl ?_
  refine exF (.rev (lin h)) ?_
  exact later_loop b out last pf _ _ _ items.reverse work _ (by rw [List.length_reverse]; exact h) fun y => q
theorem c_token (n : Nat) (b : Bs) (out work : List D) (last : List Nat) (pf : Bool) (hl : last = [] ∨ ∃ l, last = [l]) (f : Nat) (r u : List Nat) (c : Nat) (ht : f :: r = u ++ [c]) (hu : u.length + 1 ≤ 1000) (ho : out.length + 1 ≤ big) :
    RC (CW (n + 5)) 33 [.ob 10, .d (.str (f :: r))] (wst b out work last pf) (.d .non) (wst b (out ++ sp last pf f ++ [.str (f :: r)]) work [c] false) := by
  intro Q q
  refine K.c (fi := fi33) (ir := ir33) rfl rfl rfl ?_
  have hb := big_eq
  have R : ∀ out' last' pf', out'.length ≤ big → RC (CW (n + 4)) 32 [.ob 10, .d (.str (f :: r))] (wst b out' work last' pf') (.d .non) (wst b (out' ++ [.str (f :: r)]) work [c] false) := by
    intro out' last' pf' h
    rw [ht]
    exact c_raw K (n + 3) b out' work last' pf' u c (lin (ad hu (lq hb.symm))) h
  refine exC CD.neS (ifT ?_ ?_)
  · rw [codes1.2.2.2.2]; rfl
  refine exI ixS ?_
  refine c_needs K n b out work last pf f hl _ ?_
  unfold sp at q
  refine ifC (fun h => ?_) (fun h => ?_)
  · rw [if_pos h] at q
    refine an (.lst rfl rfl) (exM (.append _ rfl (lin ho)) ?_)
    rw [codes1.1]
    refine R _ _ _ (by rw [ap1]; exact ho) _ q
  · rw [if_neg h, List.append_nil] at q
    exact R _ _ _ (lin ho) _ q
end Mn
end
section
namespace Mn
inductive Kd where | xfx | xfy | yfx | fy | fx | yf | xf
noncomputable def Kd.s : Kd → List Nat
  | .xfx => [120, 102, 120] | .xfy => [120, 102, 121] | .yfx => [121, 102, 120] | .fy => [102, 121] | .fx => [102, 120] | .yf => [121, 102] | .xf => [120, 102]
theorem kd_codes : codes "xfx" = [120, 102, 120] ∧ codes "xfy" = [120, 102, 121] ∧ codes "yfx" = [121, 102, 120] ∧ codes "fy" = [102, 121] ∧ codes "fx" = [102, 120] ∧ codes "yf" = [121, 102] ∧ codes "xf" = [120, 102] := by
  refine ⟨?_, ?_, ?_, ?_, ?_, ?_, ?_⟩ <;> kernel_rfl
noncomputable def Kd.lb (h : Int) : Kd → Int
  | .xfx => h - 1 | .xfy => h - 1 | .yfx => h | .fy => 0 | .fx => 0 | .yf => h | .xf => h - 1
noncomputable def Kd.rb (h : Int) : Kd → Int
  | .xfx => h - 1 | .xfy => h | .yfx => h - 1 | .fy => h | .fx => h - 1 | .yf => 0 | .xf => 0
theorem eqL {st : List AO} {a s t : List Nat} (h : t = s) : CA st .Eq (.d (.str a)) (.d (.str t)) (a == s) := by
  subst h; exact CD.eqS
theorem nb {b : Bool} (h : (!b) = true) : b = false := by
  cases b
  · rfl
  · cases h
theorem nf {b : Bool} (h : ¬ (!b) = true) : b = true := by
  cases b
  · exact absurd rfl h
  · rfl
noncomputable def alnN (s : List Nat) : Bool := match s with
  | [] => false
  | c :: _ => smaB c && s.all (fun c => alnB c)
noncomputable def symN (s : List Nat) : Bool := match s with
  | [] => false
  | _ => s.all symB
noncomputable def in4 (s : List Nat) : Bool := ([91, 93] == s) || (([123, 125] == s) || (([33] == s) || (([59] == s) || false)))
noncomputable def plainN (s : List Nat) : Bool := in4 s || (alnN s || (symN s && (!(s == [46]) && !(decide (2 ≤ s.length) && s.take 2 == [47, 42]))))
noncomputable def tightN (s : List Nat) : Bool := (s == [59]) || ((s == [33]) || symN s)
theorem nm_codes : codes "[]" = [91, 93] ∧ codes "{}" = [123, 125] ∧ codes "!" = [33] ∧ codes ";" = [59] ∧ codes "." = [46] ∧ codes "/*" = [47, 42] := by
  refine ⟨?_, ?_, ?_, ?_, ?_, ?_⟩ <;> kernel_rfl
section
variable {C N : CallT} {st : List AO}
theorem chk_loop {t : Option AV} {p : Pos} {g : Nat → Bool} {B : Vars → List AO → (Fl → Vars → List AO → Prop) → Prop} (hB : ∀ (c : Nat) (Q : Fl → Vars → List AO → Prop), (g c = true → Q .nx [t, some (.d (.str [c]))] st) → (g c = false → Q (.rt (.d (.boo false))) [t, some (.d (.str [c]))] st) → B [t, some (.d (.str [c]))] st Q) {Q : Fl → Vars → List AO → Prop} :
    ∀ (l : List Nat) (x : Option AV), (l.all g = true → ∀ y, Q .nx [t, y] st) → (l.all g = false → ∀ y, Q (.rt (.d (.boo false))) [t, y] st) → loopF (.nm 1 p) B (l.map fun c => .str [c]) [t, x] st Q := by
  intro l
  induction l with
  | nil => intro x h _; exact h rfl x
  | cons c l ih =>
    intro x h1 h2
    refine hB c _ (fun hc => ?_) (fun hc => ?_)
    · refine ih _ (fun h => h1 ?_) (fun h => h2 ?_)
      · rw [List.all_cons, hc, h]; rfl
      · rw [List.all_cons, hc, h]; rfl
    · refine h2 ?_ _
      rw [List.all_cons, hc]; rfl
end
variable {CW NW : Nat → CallT} (K : Wk CW NW)
include K
theorem c_bounds (n : Nat) (h : Int) (k : Kd) (st : List AO) : RC (CW (n + 1)) 19 [.d (.int h), .d (.str k.s)] st (.d (.tup [.int (k.lb h), .int (k.rb h)])) st := by
  intro Q q
  refine K.c (fi := fi19) (ir := ir19) rfl rfl rfl ?_
  obtain ⟨k1, k2, k3, k4, k5, k6, k7⟩ := kd_codes
  have b2 : (2 : Nat) ≤ big := by decide
  refine exO (.sub _ _) (exC (eqL k5) ?_)
  refine ifC (fun e => ?_) (fun e5 => ?_)
  · cases k <;> first | exact an b2 q | exact absurd e (by decide)
  refine exC (eqL k4) (ifC (fun e => ?_) (fun e4 => ?_))
  · cases k <;> first | exact an b2 q | exact absurd e (by decide)
  refine exC (eqL k7) (ifC (fun e => ?_) (fun e7 => ?_))
  · cases k <;> first | exact an b2 q | exact absurd e (by decide)
  refine exC (eqL k6) (ifC (fun e => ?_) (fun e6 => ?_))
  · cases k <;> first | exact an b2 q | exact absurd e (by decide)
  refine exC (eqL k2) (ifC (fun e => ?_) (fun e2 => ?_))
  · cases k <;> first | exact an b2 q | exact absurd e (by decide)
  refine exC (eqL k3) (ifC (fun e => ?_) (fun e3 => ?_))
  · cases k <;> first | exact an b2 q | exact absurd e (by decide)
  cases k <;> first | exact an b2 q | exact absurd rfl (by assumption)
theorem c_alnN (n : Nat) (s : List Nat) (hs : s.length ≤ big) (st : List AO) : RC (CW (n + 3)) 15 [.d (.str s)] st (.d (.boo (alnN s))) st := by
  intro Q q
  refine K.c (fi := fi15) (ir := ir15) rfl rfl rfl ?_
  refine exC (eqL codes1.2.2.2.2) ?_
  cases s with
  | nil => exact q
  | cons c r =>
    refine exI ixS (exB (.ord _) ?_)
    refine c_is_small K (n + 1) _ _ _ ?_
    refine ifC (fun h => ?_) (fun h => ?_)
    · refine qb q ?_
      show (smaB c && _) = false
      rw [nb h]; rfl
    · have h : smaB c = true := nf h
      refine exF (.str hs) ?_
      refine chk_loop (g := fun c => alnB c) (fun c Q h1 h2 => ?_) (c :: r) _ (fun e y => ?_) (fun e y => ?_)
      · refine exB (.ord _) ?_
        refine c_is_alnum K n _ _ _ ?_
        refine ifC (fun h => h2 (nb h)) (fun h => h1 (nf h))
      · refine qb q ?_
        show (smaB c && _) = true
        rw [h, e]; rfl
      · refine qb q ?_
        show (smaB c && _) = false
        rw [h, e]; rfl
theorem c_symN (n : Nat) (s : List Nat) (hs : s.length ≤ big) (st : List AO) : RC (CW (n + 2)) 16 [.d (.str s)] st (.d (.boo (symN s))) st := by
  intro Q q
  refine K.c (fi := fi16) (ir := ir16) rfl rfl rfl ?_
  refine exC (eqL codes1.2.2.2.2) ?_
  cases s with
  | nil => exact q
  | cons c r =>
    refine exF (.str hs) ?_
    refine chk_loop (g := symB) (fun c Q h1 h2 => ?_) (c :: r) _ (fun e y => ?_) (fun e y => ?_)
    · refine exB (.ord _) ?_
      refine c_is_symbol K n _ _ _ ?_
      refine ifC (fun h => h2 (nb h)) (fun h => h1 (nf h))
    · exact qb q e
    · exact qb q e
theorem c_plain (n : Nat) (s : List Nat) (hs : s.length ≤ big) (st : List AO) : RC (CW (n + 4)) 17 [.d (.str s)] st (.d (.boo (plainN s))) st := by
  intro Q q
  refine K.c (fi := fi17) (ir := ir17) rfl rfl rfl ?_
  obtain ⟨k1, k2, k3, k4, k5, k6⟩ := nm_codes
  unfold plainN at q
  refine an (by decide) (exC (b := in4 s) (.d (.inT ?_)) ?_)
  · rw [k1, k2, k3, k4]
    exact .cons (.flat (.ss _ _)) (.cons (.flat (.ss _ _)) (.cons (.flat (.ss _ _)) (.cons (.flat (.ss _ _)) .nil)))
  refine ifC (fun h => qb q (by rw [h]; rfl)) (fun h => ?_)
  rw [eq_false_of_ne_true h, Bool.false_or] at q
  refine c_alnN K n s hs _ _ ?_
  refine ifC (fun h => qb q (by rw [h]; rfl)) (fun h => ?_)
  rw [eq_false_of_ne_true h, Bool.false_or] at q
  refine c_symN K (n + 1) s hs _ _ ?_
  refine ifB (fun h => qb q (by rw [h]; rfl)) (fun h => ?_)
  rw [h] at q
  refine exC (b := !(s == [46])) (by rw [k5]; exact CD.neS) ?_
  refine ifB (fun h => qb q (by rw [h]; rfl)) (fun h => ?_)
  rw [h] at q
  refine an (.str rfl) (exM (.startswith _ _) ?_)
  rw [k6]; exact q
theorem c_tight (n : Nat) (s : List Nat) (hs : s.length ≤ big) (st : List AO) : RC (CW (n + 3)) 29 [.d (.str s)] st (.d (.boo (tightN s))) st := by
  intro Q q
  refine K.c (fi := fi29) (ir := ir29) rfl rfl rfl ?_
  obtain ⟨k1, k2, k3, k4, k5, k6⟩ := nm_codes
  unfold tightN at q
  refine exC (eqL k4) (ifB (fun h => qb q ?_) (fun h => ?_))
  · rw [h]; rfl
  rw [h] at q
  refine exC (eqL k3) (ifB (fun h => qb q ?_) (fun h => ?_))
  · rw [h]; rfl
  rw [h] at q
  exact c_symN K n s hs _ _ q
end Mn
end
section
namespace Mn
noncomputable def tS (f : Nat) (l : List D) : D := .tup [.str [115], .int f, .tup l]
theorem cA : codes "a" = [97] ∧ codes "v" = [118] ∧ codes "i" = [105] ∧ codes "s" = [115] ∧ codes "{" = [123] := by
  refine ⟨?_, ?_, ?_, ?_, ?_⟩ <;> kernel_rfl
noncomputable def sInf : List Nat := [105, 110, 102, 105, 120]
noncomputable def sPre : List Nat := [112, 114, 101, 102, 105, 120]
noncomputable def sPost : List Nat := [112, 111, 115, 116, 102, 105, 120]
theorem cI : codes "infix" = sInf ∧ codes "prefix" = sPre ∧ codes "postfix" = sPost := by
  refine ⟨?_, ?_, ?_⟩ <;> kernel_rfl
theorem neL {st : List AO} {a s t : List Nat} (h : t = s) : CA st .NotEq (.d (.str a)) (.d (.str t)) (!(a == s)) := by
  subst h; exact CD.neS
theorem bg1 : 1 ≤ big := by decide
theorem bg2 : 2 ≤ big := by decide
theorem bg3 : 3 ≤ big := by decide
theorem bg4 : 4 ≤ big := by decide
theorem beqI {x y : Int} (h : ¬ x = y) : ¬ (x == y) = true := fun e => h (beq_iff_eq.mp e)
variable {CW NW : Nat → CallT} (K : Wk CW NW)
include K
theorem c_text0 (n : Nat) (b : Bs) (rest : List AO) (a : Nat) (t : D) (h : b.texts[a]? = some t) (ha : a < 4294967296) : RC (CW (n + 1)) 4 [.ob 1, .d (.int a)] (bst b rest) (.d t) (bst b rest) := by
  intro Q q
  refine K.c (fi := fi4) (ir := ir4) rfl rfl rfl ?_
  exact exI (.ob (l := b.texts) rfl (idx_nat h ha)) q
theorem c_name (n : Nat) (b : Bs) (rest : List AO) (f : Nat) (a r : D) (h : b.fs[f]? = some (.tup [a, r])) (hf : f < 4294967296) : RC (CW (n + 1)) 7 [.ob 1, .d (.int f)] (bst b rest) (.d a) (bst b rest) := by
  intro Q q
  refine K.c (fi := fi7) (ir := ir7) rfl rfl rfl ?_
  refine exI (.ob (l := b.fs) rfl (idx_nat h hf)) ?_
  exact exI ix0 q
noncomputable def escN (c : Nat) : List Nat := if c = 39 ∨ c = 92 then [92, c] else [c]
noncomputable def quotedN (t : List Nat) : List Nat := ([39] :: (t.map escN) ++ [[39]]).flatten
noncomputable def wtx (q : Bool) (t : List Nat) : List Nat := if (q && !plainN t) = true then quotedN t else t
noncomputable def okQ (t : List Nat) : Prop := t.length ≤ 200 ∧ ∀ c ∈ t, 32 ≤ c ∧ c < 127
omit K in
theorem cE : codes "\\" = [92] ∧ codes "_" = [95] := by
  refine ⟨?_, ?_⟩ <;> kernel_rfl
theorem c_escaped (n : Nat) (c : Nat) (h : 32 ≤ c ∧ c < 127) (st : List AO) : RC (CW (n + 1)) 50 [.d (.int c)] st (.d (.str (escN c))) st := by
  intro Q q
  refine K.c (fi := fi50) (ir := ir50) rfl rfl rfl ?_
  have yes : (c = 39 ∨ c = 92) → ∃ r, BiR st .chr [.d (.int c)] r ∧ ∃ r', BinR .add (.d (.str (codes "\\"))) r r' ∧ Q r' st := fun e => by
    unfold escN at q
    rw [if_pos e] at q
    rw [cE.1]
    exact ⟨_, .chr (by omega), _, .addS (by exact Nat.le_of_ble_eq_true rfl), q⟩
  refine exC CD.eqI (ifB (fun e => ?_) fun e => ?_)
  · rw [e]; exact yes (.inl (by have := eq_of_beq e; omega))
  · have n39 : ¬ c = 39 := fun c => by subst c; exact absurd e (by decide)
    refine exC CD.eqI (ifC (fun e2 => yes (.inr (by have := eq_of_beq e2; omega))) fun e2 => ?_)
    have n92 : ¬ c = 92 := fun c => e2 (beq_iff_eq.mpr (by omega))
    unfold escN at q
    rw [if_neg (fun c => c.elim n39 n92)] at q
    refine exC (.d (.le _ _)) (ifF (by rw [decide_eq_true (by omega)]; decide) (exC (.d (.le _ _)) ?_))
    refine ifF (fun c => by have := of_decide_eq_true c; omega) ?_
    refine exC (.d (.lt _ _)) (ifF (fun c => by have := of_decide_eq_true c; omega) (exC CD.eqI (ifF (fun c => by have := eq_of_beq c; omega) ?_)))
    exact exB (.chr (by omega)) q
theorem quoted_loop (n : Nat) (t0 : Option AV) (p : Pos) (st : List AO) (Q : Fl → Vars → List AO → Prop) : ∀ (l : List Nat) (acc : List (List Nat)) (x : Option AV), (∀ c ∈ l, 32 ≤ c ∧ c < 127) → acc.length + l.length ≤ big → (∀ y, Q .nx [t0, some (.own ((acc ++ l.map escN).map .str)), y] st) →
    loopF (.nm 2 p) (fun vs st Q => wpSs P0 (CW (n + 1)) (NW (n + 1)) (forB ir51 1) vs st Q) (l.map fun c => .str [c]) [t0, some (.own (acc.map .str)), x] st Q := by
  intro l
  induction l with
  | nil => intro acc x _ _ q; rw [List.map_nil, List.append_nil] at q; exact q x
  | cons c l ih =>
    intro acc x hc hl q
    rw [List.length_cons] at hl
    refine exB (.ord _) (c_escaped K n c (hc c List.mem_cons_self) _ _ ?_)
    refine an (by rw [List.length_map]; exact lin hl) ?_
    have := ih (acc ++ [escN c]) (some (.d (.str [c]))) (fun d hd => hc d (List.mem_cons_of_mem _ hd)) (by rw [ap1]; exact lin hl) (by rw [List.append_assoc]; exact q)
    rw [List.map_append] at this
    exact this
omit K in
theorem join_nil (ss : List (List Nat)) : joinN [] ss = ss.flatten := by
  induction ss with
  | nil => rfl
  | cons x r ih =>
    cases r with
    | nil => show x = x ++ []; rw [List.append_nil]
    | cons y r => show x ++ [] ++ joinN [] (y :: r) = _; rw [List.append_nil, ih]; rfl
omit K in
theorem esc_len (t : List Nat) : ((t.map escN).map (·.length)).sum ≤ 2 * t.length := by
  induction t with
  | nil => exact Nat.le_refl _
  | cons c r ih =>
    have : (escN c).length ≤ 2 := by
      unfold escN
      by_cases h : c = 39 ∨ c = 92
      · rw [if_pos h]; exact Nat.le_refl _
      · rw [if_neg h]; exact Nat.le_succ _
    rw [List.map_cons, List.map_cons, List.sum_cons, List.length_cons]
    exact lin (ad ih this)
theorem c_quoted (n : Nat) (t : List Nat) (h : okQ t) (st : List AO) : RC (CW (n + 2)) 51 [.d (.str t)] st (.d (.str (quotedN t))) st := by
  intro Q q
  refine K.c (fi := fi51) (ir := ir51) rfl rfl rfl ?_
  have hb := big_eq
  have hl := h.1
  have c39 : codes "'" = [39] := codes1.2.2.2.1
  refine an (by exact Nat.le_of_ble_eq_true rfl) (an bg1 ?_)
  refine exF (.str (lin (ad (lq hb.symm) hl))) ?_
  rw [c39]
  refine quoted_loop K n _ _ st _ t [[39]] _ h.2 (by show 1 + _ ≤ _; exact lin (ad (lq hb.symm) hl)) fun y => ?_
  have el : (([[39]] ++ t.map escN).map D.str).length = 1 + t.length := by rw [List.length_map, List.length_append, List.length_map]; rfl
  refine an (by rw [el]; exact lin (ad (lq hb.symm) hl)) (an (.str rfl) ?_)
  rw [codes1.2.2.2.2, c39]
  have e2 : ([[39]] ++ t.map escN).map D.str ++ [.str [39]] = ([39] :: (t.map escN) ++ [[39]]).map .str := by rw [List.map_append, List.map_append]; rfl
  rw [e2]
  refine exM (.joinD [] ?_) ?_
  · have := esc_len t
    rw [List.cons_append, List.map_cons, List.map_append, List.sum_cons, List.sum_append]
    show 1 + (_ + (1 + 0)) + _ * 0 ≤ _
    omega
  · rw [join_nil]; exact q
theorem c_atom_text (n : Nat) (b : Bs) (rest : List AO) (a : Nat) (t : List Nat) (h : b.texts[a]? = some (.str t)) (ha : a < 4294967296) (hl : okQ t) :
    RC (CW (n + 5)) 27 [.ob 1, .d (.int a), .d (.boo b.qt)] (bst b rest) (.d (.str (wtx b.qt t))) (bst b rest) := by
  intro Q q
  refine K.c (fi := fi27) (ir := ir27) rfl rfl rfl ?_
  have hb := big_eq
  have hz := hl.1
  refine c_text0 K (n + 3) b rest a _ h ha _ ?_
  unfold wtx at q
  refine ifB (fun e => ?_) fun e => ?_
  · rw [e] at q ⊢
    exact q
  · have e : b.qt = true := e
    rw [e] at q
    refine c_plain K n t (lin (ad (lq hb.symm) hz)) _ _ ?_
    refine ifC (fun e2 => ?_) fun e2 => ?_
    · rw [if_pos (show (true && !plainN t) = true from e2)] at q
      exact c_quoted K (n + 2) t hl _ _ q
    · rw [if_neg (show ¬ (true && !plainN t) = true from e2)] at q
      exact q
noncomputable def numN (v : Int) : List Nat := if v < 0 then 45 :: codes (toString (v.natAbs : Int)) else codes (toString (v.natAbs : Int))
noncomputable def varN (k : Int) : List Nat := 95 :: codes (toString k)
theorem c_number (n : Nat) (v : Int) (hv : v.natAbs < 1000) (hl : (codes (toString (v.natAbs : Int))).length ≤ 100) (st : List AO) : RC (CW (n + 1)) 49 [.d (.int v)] st (.d (.str (numN v))) st := by
  intro Q q
  refine K.c (fi := fi49) (ir := ir49) rfl rfl rfl ?_
  refine exB (.abs _) ?_
  refine an (by exact Nat.le_of_ble_eq_true rfl) (an (by decide) ?_)
  refine ⟨1, ?_⟩
  refine exO .pow (exC (.d (.ge _ _)) ?_)
  rw [decide_eq_false (by omega)]
  refine exB (.str (by omega)) (an (by decide) ?_)
  have j1 : JrR (.d (.str [])) (.d (.lst ([codes (toString (v.natAbs : Int))].map .str))) (.d (.str (codes (toString (v.natAbs : Int))))) := .mk (ss := [_]) [] (by exact Nat.le_of_ble_eq_true rfl) (by show ((codes (toString (v.natAbs : Int))).length + 0) + 1 * 0 ≤ 2 ^ 24; omega)
  have j2 : JrR (.d (.str [])) (.d (.lst ([codes (toString (v.natAbs : Int)), [45]].map .str))) (.d (.str (45 :: codes (toString (v.natAbs : Int))))) := .mk (ss := [_, [45]]) [] (by exact Nat.le_of_ble_eq_true rfl) (by show (1 + ((codes (toString (v.natAbs : Int))).length + 0)) + 2 * 0 ≤ 2 ^ 24; omega)
  unfold numN at q
  refine exC (.d (.lt _ _)) (ifC (fun e => ?_) fun e => ?_)
  · rw [if_pos (of_decide_eq_true e)] at q
    refine an (by exact Nat.le_of_ble_eq_true rfl) (an (.str rfl) ?_)
    rw [codes1.2.2.2.2, codes1.2.2.1]
    exact ⟨_, j2, q⟩
  · rw [if_neg (fun c => e (decide_eq_true c))] at q
    refine an (.str rfl) ?_
    rw [codes1.2.2.2.2]
    exact ⟨_, j1, q⟩
theorem c_prefix (n : Nat) (b : Bs) (rest : List AO) (a : D) (r : Option D) (h : DG b.pre a r) : RC (CW (n + 1)) 21 [.ob 6, .d a] (bst b rest) (.d (r.getD .non)) (bst b rest) := by
  intro Q q
  refine K.c (fi := fi21) (ir := ir21) rfl rfl rfl ?_
  exact an (.get rfl h) (exM (.get rfl h) q)
theorem c_infix (n : Nat) (b : Bs) (rest : List AO) (a : D) (r : Option D) (h : DG b.inf a r) : RC (CW (n + 1)) 22 [.ob 6, .d a] (bst b rest) (.d (r.getD .non)) (bst b rest) := by
  intro Q q
  refine K.c (fi := fi22) (ir := ir22) rfl rfl rfl ?_
  exact an (.get rfl h) (exM (.get rfl h) q)
theorem c_postfix (n : Nat) (b : Bs) (rest : List AO) (a : D) (r : Option D) (h : DG b.post a r) : RC (CW (n + 1)) 23 [.ob 6, .d a] (bst b rest) (.d (r.getD .non)) (bst b rest) := by
  intro Q q
  refine K.c (fi := fi23) (ir := ir23) rfl rfl rfl ?_
  exact an (.get rfl h) (exM (.get rfl h) q)
theorem c_isop (n : Nat) (b : Bs) (rest : List AO) (a : D) {r1 r2 r3 : Option D} (h1 : DG b.pre a r1) (h2 : DG b.inf a r2) (h3 : DG b.post a r3) : RC (CW (n + 1)) 24 [.ob 6, .d a] (bst b rest) (.d (.boo (r1.isSome || (r2.isSome || r3.isSome)))) (bst b rest) := by
  intro Q q
  refine K.c (fi := fi24) (ir := ir24) rfl rfl rfl ?_
  refine exC (.inD rfl h1) (ifB (fun e => ?_) fun e => ?_)
  · have e : r1.isSome = true := e
    rw [e] at q ⊢; exact q
  · have e : r1.isSome = false := e
    rw [e] at q
    refine exC (.inD rfl h2) (ifB (fun e => ?_) fun e => ?_)
    · have e : r2.isSome = true := e
      rw [e] at q ⊢; exact q
    · have e : r2.isSome = false := e
      rw [e] at q
      exact exC (.inD rfl h3) q
structure Wx where
  o : Nat
  l : Nat
  last : List Nat
  pf : Bool
  rest : List AO
noncomputable def xst (b : Bs) (w : Wx) : List AO := bst b (.ins 2 [(4, .ob 1), (8, .ob 6), (9, .d (.boo b.qt)), (10, .d (.boo b.ig)), (11, .d (.boo false)), (12, .ob 11), (13, .ob 12), (14, .ob w.o), (15, .d (.str w.last)), (16, .d (.boo w.pf)), (17, .ob w.l)] :: w.rest)
noncomputable def wxr (b : Bs) (out work : List D) (last : List Nat) (pf : Bool) : Wx := ⟨15, 16, last, pf, [.d0, .d0, .lst b.oo, .lst b.ow, .lst out, .lst work]⟩
section
variable (b : Bs) (w : Wx) (hig : b.ig = false)
theorem c_numbered (n : Nat) (t : D) : RC (CW (n + 1)) 37 [.ob 10, .d t] (xst b w) (.d (.boo false)) (xst b w) := by
  intro Q q
  refine K.c (fi := fi37) (ir := ir37) rfl rfl rfl ?_
  exact q
theorem c_shape_ig (hig : b.ig = true) (n : Nat) (t : D) : RC (CW (n + 2)) 41 [.ob 10, .d t] (xst b w) (.d .non) (xst b w) := by
  intro Q q
  refine K.c (fi := fi41) (ir := ir41) rfl rfl rfl ?_
  refine ifT hig ?_
  refine ifT hig ?_
  exact q
include hig
theorem c_shape_atom (n : Nat) (l : List D) (tg : List Nat) (h : (tg == [115]) = false) : RC (CW (n + 2)) 41 [.ob 10, .d (.tup (.str tg :: l))] (xst b w) (.d .non) (xst b w) := by
  intro Q q
  refine K.c (fi := fi41) (ir := ir41) rfl rfl rfl ?_
  refine ifF (fun c => by rw [hig] at c; exact Bool.false_ne_true c) (exI ix0 ?_)
  refine exC (neL cA.2.2.2.1) ?_
  rw [h]; exact q
theorem shape_s (n : Nat) (l : List D) (f : Nat) {Q : AV → List AO → Prop} (h : wpSs P0 (CW (n + 1)) (NW (n + 1)) (match ir41 with | .cons _ r => r | _ => .nil) (argVars fi41 [.ob 10, .d (tS f l)]) (xst b w) (retQ Q)) : CW (n + 2) 41 [.ob 10, .d (tS f l)] (xst b w) Q := by
  refine K.c (fi := fi41) (ir := ir41) rfl rfl rfl ?_
  refine ifF (fun c => by rw [hig] at c; exact Bool.false_ne_true c) (exI ix0 ?_)
  refine exC (neL cA.2.2.2.1) ?_
  exact h
theorem c_shape_f (n : Nat) (l : List D) (f : Nat) (h : f = 0 ∨ f = 9) : RC (CW (n + 2)) 41 [.ob 10, .d (tS f l)] (xst b w) (.d .non) (xst b w) := by
  intro Q q
  refine shape_s K b w hig n l f ?_
  refine exI ix1 (exC CD.eqI ?_)
  rcases h with rfl | rfl
  · exact q
  · refine exI ix1 (exC CD.eqI ?_)
    exact q
theorem shape_op (n : Nat) (l : List D) (f : Nat) (h0 : f ≠ 0) (h9 : f ≠ 9) (hf : f < 4294967296) (a ar : D) (hfs : b.fs[f]? = some (.tup [a, ar])) {Q : AV → List AO → Prop}
    (h : wpSs P0 (CW (n + 2)) (NW (n + 2)) (match ir41 with | .cons _ (.cons _ (.cons _ (.cons _ r))) => r | _ => .nil) [some (.ob 10), some (.d (tS f l)), some (.d a), some (.d (.tup l)), none] (xst b w) (retQ Q)) : CW (n + 3) 41 [.ob 10, .d (tS f l)] (xst b w) Q := by
  refine shape_s K b w hig (n + 1) l f ?_
  refine exI ix1 (exC CD.eqI ?_)
  refine ifF (beqI (by omega)) ?_
  refine exI ix1 (exC CD.eqI ?_)
  refine ifF (beqI (by omega)) ?_
  refine c_numbered K b w (n + 1) _ _ ?_
  refine exI ix1 ?_
  refine c_name K (n + 1) b _ f a ar hfs hf _ ?_
  exact exI ix2 h
theorem c_shape2 (n : Nat) (x y : D) (f : Nat) (h0 : f ≠ 0) (h9 : f ≠ 9) (hf : f < 4294967296) (a ar : D) (hfs : b.fs[f]? = some (.tup [a, ar])) (h k : D) (hi : DG b.inf a (some (.tup [h, k]))) :
    RC (CW (n + 3)) 41 [.ob 10, .d (tS f [x, y])] (xst b w) (.d (.tup [.str sInf, h, k])) (xst b w) := by
  intro Q q
  refine shape_op K b w hig n _ f h0 h9 hf a ar hfs ?_
  refine exB (.lenT bg2) (exC CD.eqI ?_)
  refine c_infix K (n + 1) b _ a _ hi _ ?_
  refine exC (.d (.isN _)) ?_
  refine exI ix0 ?_
  refine exI ix1 ?_
  rw [← cI.1] at q
  exact an bg3 q
theorem c_shape1q (n : Nat) (x : D) (f : Nat) (h0 : f ≠ 0) (h9 : f ≠ 9) (hf : f < 4294967296) (a : D) (ar : D) (hfs : b.fs[f]? = some (.tup [a, ar])) (hi : DG b.pre a none) (r : Option (D × D)) (hj : DG b.post a (r.map fun p => .tup [p.1, p.2])) :
    RC (CW (n + 3)) 41 [.ob 10, .d (tS f [x])] (xst b w) (.d (match r with | none => .non | some p => .tup [.str sPost, p.1, p.2])) (xst b w) := by
  intro Q q
  refine shape_op K b w hig n _ f h0 h9 hf a ar hfs ?_
  refine exB (.lenT bg1) (exC CD.eqI ?_)
  refine exB (.lenT bg1) (exC CD.eqI ?_)
  refine c_prefix K (n + 1) b _ a _ hi _ ?_
  refine exC (.d (.isN _)) ?_
  refine c_postfix K (n + 1) b _ a _ hj _ ?_
  refine exC (.d (.isN _)) ?_
  cases r with
  | none => exact q
  | some p =>
    refine exI ix0 ?_
    refine exI ix1 ?_
    rw [← cI.2.2] at q
    exact an bg3 q
omit hig in
theorem c_left_none (n : Nat) (x : D) (h m : D) (hs : RC (CW (n + 3)) 41 [.ob 10, .d x] (xst b w) (.d .non) (xst b w)) :
    RC (CW (n + 4)) 43 [.ob 10, .d x, .d h, .d m] (xst b w) (.d m) (xst b w) := by
  intro Q q
  refine K.c (fi := fi43) (ir := ir43) rfl rfl rfl ?_
  refine hs _ ?_
  exact exC (.d (.isN _)) q
omit hig in
theorem c_left_some (n : Nat) (x : D) (h m : Int) (kd : List Nat) (h' : Int) (k : Kd) (hs : RC (CW (n + 3)) 41 [.ob 10, .d x] (xst b w) (.d (.tup [.str kd, .int h', .str k.s])) (xst b w)) :
    RC (CW (n + 4)) 43 [.ob 10, .d x, .d (.int h), .d (.int m)] (xst b w) (.d (.int (if h' = h ∧ k.rb h' = h then h - 1 else m))) (xst b w) := by
  intro Q q
  refine K.c (fi := fi43) (ir := ir43) rfl rfl rfl ?_
  refine hs _ ?_
  refine exC (.d (.isN _)) ?_
  refine exI ix1 (exC CD.eqI ?_)
  refine ifB (fun e => ?_) (fun e => ?_)
  · refine ifF (fun c => Bool.false_ne_true (e.symm.trans c)) ?_
    rw [if_neg (fun c => Bool.false_ne_true (e.symm.trans (beq_iff_eq.mpr c.1)))] at q
    exact q
  · refine exI ix1 (exI ix2 ?_)
    refine c_bounds K (n + 2) h' k _ _ ?_
    refine exI ix1 (exC CD.eqI ?_)
    refine ifC (fun e2 => ?_) (fun e2 => ?_)
    · rw [if_pos ⟨beq_iff_eq.mp e, beq_iff_eq.mp e2⟩] at q
      exact exO (.sub _ _) q
    · rw [if_neg (fun c => e2 (beq_iff_eq.mpr c.2))] at q
      exact q
end
end Mn
end
section
namespace Mn
structure Wt (t : List Nat) (f c : Nat) : Prop where
  st : ∃ r, t = f :: r
  en : ∃ u, t = u ++ [c] ∧ u.length + 1 ≤ 1000
theorem Wt.len {t : List Nat} {f c : Nat} (w : Wt t f c) : t.length ≤ big := by
  obtain ⟨u, rfl, h⟩ := w.en
  rw [ap1, big_eq]; exact lin h
theorem Wt.one (c : Nat) : Wt [c] c c := ⟨⟨[], rfl⟩, [], rfl, by decide⟩
theorem gvI {st : List AO} {x y : Int} : CA st .Eq (.d (.int x)) (.d (.int y)) (x == y) := CD.eqI
variable {CW NW : Nat → CallT} (K : Wk CW NW)
include K
section
variable (n : Nat) (b : Bs) (out work : List D) (last : List Nat) (pf : Bool) {t : List Nat} {f c : Nat} (w : Wt t f c)
include w
theorem raw_ (ho : out.length ≤ big) : RC (CW (n + 1)) 32 [.ob 10, .d (.str t)] (wst b out work last pf) (.d .non) (wst b (out ++ [.str t]) work [c] false) := by
  obtain ⟨u, rfl, h⟩ := w.en
  exact c_raw K n b out work last pf u c (by rw [big_eq]; exact lin h) ho
theorem tok_ (hl : last = [] ∨ ∃ l, last = [l]) (ho : out.length + 1 ≤ big) : RC (CW (n + 5)) 33 [.ob 10, .d (.str t)] (wst b out work last pf) (.d .non) (wst b (out ++ sp last pf f ++ [.str t]) work [c] false) := by
  obtain ⟨r, e⟩ := w.st
  obtain ⟨u, e', h⟩ := w.en
  subst e
  exact c_token K n b out work last pf hl f r u c e' h ho
variable (a : Nat) (t0 : List Nat) (ht : t = wtx b.qt t0) (hx : b.texts[a]? = some (.str t0)) (ha : a < 4294967296) (hp : okQ t0) (hl : last = [] ∨ ∃ l, last = [l]) (ho : out.length + 8 ≤ big)
include ht hx ha hp ho
theorem txt_ (rest : List AO) : RC (CW (n + 5)) 27 [.ob 1, .d (.int a), .d (.boo b.qt)] (bst b rest) (.d (.str t)) (bst b rest) := by
  rw [ht]; exact c_atom_text K n b rest a t0 hx ha hp
include hl
noncomputable def preS (tight : Bool) (t : List Nat) (f c : Nat) (b : Bs) (out work : List D) (last : List Nat) (pf : Bool) : List AO :=
  if tight = true then wst b (out ++ sp last pf f ++ [.str t]) work [c] true else wst b (out ++ sp last pf f ++ [.str t] ++ [.str [32]]) work [32] false
theorem c_preop : RC (CW (n + 6)) 44 [.ob 10, .d (.int a)] (wst b out work last pf) (.d .non) (preS (tightN t) t f c b out work last pf) := by
  intro Q q
  refine K.c (fi := fi44) (ir := ir44) rfl rfl rfl ?_
  have hs := sp_len last pf f
  refine txt_ K n b out w a t0 ht hx ha hp ho _ _ ?_
  refine tok_ K n b out work last pf w hl (lin ho) _ ?_
  refine c_tight K (n + 2) t w.len _ _ ?_
  unfold preS at q
  refine ifC (fun h => ?_) (fun h => ?_)
  · rw [if_pos h] at q
    refine ex3 10 2 _ ⟨rfl, rfl, by exact Nat.le_of_ble_eq_true rfl, ?_⟩
    exact q
  · rw [if_neg h] at q
    refine raw_ K (n + 4) b _ work [c] false (codes1.1 ▸ Wt.one 32) (by rw [ap1, List.length_append]; exact lin (ad ho hs)) _ ?_
    rw [codes1.1]
    exact q
omit hl
noncomputable def infS (tight : Bool) (t : List Nat) (f c : Nat) (b : Bs) (out work : List D) (last : List Nat) (pf : Bool) : List AO :=
  if tight = true then wst b (out ++ sp last pf f ++ [.str t]) work [c] false else wst b (out ++ [.str [32]] ++ [.str t] ++ [.str [32]]) work [32] false
include hl
theorem c_infop (h7 : a ≠ 7) (h8 : a ≠ 8) : RC (CW (n + 6)) 45 [.ob 10, .d (.int a)] (wst b out work last pf) (.d .non) (infS (tightN t) t f c b out work last pf) := by
  intro Q q
  refine K.c (fi := fi45) (ir := ir45) rfl rfl rfl ?_
  refine txt_ K n b out w a t0 ht hx ha hp ho _ _ ?_
  refine exC gvI (ifF (beqI (by omega)) ?_)
  refine exC gvI (ifF (beqI (by omega)) ?_)
  refine c_tight K (n + 2) t w.len _ _ ?_
  unfold infS at q
  refine ifC (fun h => ?_) (fun h => ?_)
  · rw [if_pos h] at q
    exact tok_ K n b out work last pf w hl (lin ho) _ q
  · rw [if_neg h] at q
    refine raw_ K (n + 4) b _ work last pf (codes1.1 ▸ Wt.one 32) (lin ho) _ ?_
    refine raw_ K (n + 4) b _ work [32] false w (by rw [ap1]; exact lin ho) _ ?_
    refine raw_ K (n + 4) b _ work [c] false (codes1.1 ▸ Wt.one 32) (by rw [ap1, ap1]; exact lin ho) _ ?_
    rw [codes1.1]
    exact q
omit hl
noncomputable def postS (tight : Bool) (t : List Nat) (f c : Nat) (b : Bs) (out work : List D) (last : List Nat) (pf : Bool) : List AO :=
  if tight = true then wst b (out ++ sp last pf f ++ [.str t]) work [c] false else wst b (out ++ [.str [32]] ++ [.str t]) work [c] false
include hl
theorem c_postop : RC (CW (n + 6)) 46 [.ob 10, .d (.int a)] (wst b out work last pf) (.d .non) (postS (tightN t) t f c b out work last pf) := by
  intro Q q
  refine K.c (fi := fi46) (ir := ir46) rfl rfl rfl ?_
  refine txt_ K n b out w a t0 ht hx ha hp ho _ _ ?_
  refine c_tight K (n + 2) t w.len _ _ ?_
  unfold postS at q
  refine ifC (fun h => ?_) (fun h => ?_)
  · rw [if_pos h] at q
    exact tok_ K n b out work last pf w hl (lin ho) _ q
  · rw [if_neg h] at q
    refine raw_ K (n + 4) b _ work last pf (codes1.1 ▸ Wt.one 32) (lin ho) _ ?_
    rw [codes1.1]
    exact raw_ K (n + 4) b _ work [32] false w (by rw [ap1]; exact lin ho) _ q
noncomputable def atS (op : Bool) (t : List Nat) (f c : Nat) (b : Bs) (out work : List D) (last : List Nat) (pf : Bool) : List AO :=
  if op = true then wst b (out ++ sp last pf 40 ++ [.str [40]] ++ [.str t] ++ [.str [41]]) work [41] false else wst b (out ++ sp last pf f ++ [.str t]) work [c] false
theorem c_watom (al : Bool) {r1 r2 r3 : Option D} (h1 : DG b.pre (.int a) r1) (h2 : DG b.inf (.int a) r2) (h3 : DG b.post (.int a) r3) :
    RC (CW (n + 6)) 38 [.ob 10, .d (.int a), .d (.boo al)] (wst b out work last pf) (.d .non) (atS (!al && (r1.isSome || (r2.isSome || r3.isSome))) t f c b out work last pf) := by
  intro Q q
  refine K.c (fi := fi38) (ir := ir38) rfl rfl rfl ?_
  refine txt_ K n b out w a t0 ht hx ha hp ho _ _ ?_
  have hs := sp_len last pf 40
  cases al with
  | true => exact tok_ K n b out work last pf w hl (lin ho) _ q
  | false =>
    refine c_isop K (n + 4) b _ (.int a) h1 h2 h3 _ ?_
    unfold atS at q
    refine ifB (fun e => ?_) (fun e => ?_)
    · have e : (r1.isSome || (r2.isSome || r3.isSome)) = true := e
      rw [e] at q
      refine tok_ K n b out work last pf (t := codes "(") (f := 40) (c := 40) (by rw [codes1.2.1]; exact Wt.one 40) hl (lin ho) _ ?_
      refine raw_ K (n + 4) b _ work [40] false w (by rw [ap1, List.length_append]; exact lin (ad ho hs)) _ ?_
      refine raw_ K (n + 4) b _ work [c] false (t := codes ")") (c := 41) (f := 41) (by rw [show codes ")" = [41] by kernel_rfl]; exact Wt.one 41) (by rw [ap1, ap1, List.length_append]; exact lin (ad ho hs)) _ ?_
      rw [codes1.2.1, show codes ")" = [41] by kernel_rfl]
      exact q
    · have e : (r1.isSome || (r2.isSome || r3.isSome)) = false := e
      rw [e] at q
      exact tok_ K n b out work last pf w hl (lin ho) _ q
end
theorem c_infop7 (n : Nat) (b : Bs) (out work : List D) (last : List Nat) (pf : Bool) (t0 : List Nat) (hx : b.texts[7]? = some (.str t0)) (hp : okQ t0) (ho : out.length ≤ big) : RC (CW (n + 6)) 45 [.ob 10, .d (.int (7 : Nat))] (wst b out work last pf) (.d .non) (wst b (out ++ [.str [44]]) work [44] false) := by
  intro Q q
  refine K.c (fi := fi45) (ir := ir45) rfl rfl rfl ?_
  refine c_atom_text K n b _ 7 t0 hx (by decide) hp _ ?_
  refine exC gvI (ifT rfl ?_)
  refine raw_ K (n + 4) b out work last pf (t := codes ",") (f := 44) (c := 44) (by rw [show codes "," = [44] by kernel_rfl]; exact Wt.one 44) ho _ ?_
  rw [show codes "," = [44] by kernel_rfl]
  exact q
theorem c_variable (n : Nat) (b : Bs) (out work : List D) (last : List Nat) (pf : Bool) (k : Int) (hk : k.natAbs < 1000) (hl : (codes (toString k)).length ≤ 100) : RC (CW (n + 1)) 52 [.ob 10, .d (.int k)] (wst b out work last pf) (.d (.str (varN k))) (wst b out work last pf) := by
  intro Q q
  refine K.c (fi := fi52) (ir := ir52) rfl rfl rfl ?_
  refine exC (.inD rfl (.i0 k)) ?_
  refine exB (.str (by omega)) (exO (.addS (x := codes "_") (by rw [cE.2, big_eq]; show 1 + _ ≤ _; exact lin hl)) ?_)
  refine ⟨1, exC (.inD rfl (.s0 _)) ?_⟩
  rw [cE.2]
  exact q
end Mn
end
section
namespace Mn
noncomputable def encL (tail : D) : List D → D
  | [] => tail
  | x :: r => tS 0 [x, encL tail r]
theorem items_loop {C N : CallT} (tg : List Nat) (k : Int) (l : List D) (ht : ((tg == [115]) && (k == 0)) = false) {st : List AO} {Q : Fl → Vars → List AO → Prop} : ∀ (items acc : List D), acc.length + items.length ≤ big →
    Q .nx [some (.d (.tup (.str tg :: .int k :: l))), some (.own (acc ++ items))] st →
    loopW (fun vs st Q => wpX P0 C N (whlT ir9 1) true vs st Q) (fun vs st Q => wpSs P0 C N (forB ir9 1) vs st Q) (items.length + 1) [some (.d (encL (.tup (.str tg :: .int k :: l)) items)), some (.own acc)] st Q := by
  intro items
  induction items with
  | nil =>
    intro acc _ q
    rw [List.append_nil] at q
    refine exI ix0 (exC (eqL cA.2.2.2.1) ?_)
    refine ifB (fun h => ?_) (fun h => ?_)
    · rw [h]; exact q
    · refine exI ix1 (exC CD.eqI ?_)
      rw [h] at ht
      replace ht : (k == 0) = false := ht
      show match AV.d (.boo (k == 0)) with | .d (.boo true) => _ | .d (.boo false) => _ | _ => False
      rw [ht]; exact q
  | cons x r ih =>
    intro acc h q
    rw [List.length_cons] at h
    refine exI ix0 (exC (eqL cA.2.2.2.1) ?_)
    refine exI ix1 (exC CD.eqI ?_)
    refine exI ix2 (exI ix0 (an (lin h) ?_))
    refine exI ix2 (exI ix1 ?_)
    refine ih (acc ++ [x]) (by rw [ap1]; exact lin h) ?_
    rw [List.append_assoc]; exact q
noncomputable def rowT (x : D) (m : Int) (al : Bool) : D := .tup [.str [116, 101, 114, 109], x, .int m, .boo al]
noncomputable def rowR (t : List Nat) : D := .tup [.str [114, 97, 119], .str t, .int 0, .boo false]
theorem cR : codes "term" = [116, 101, 114, 109] ∧ codes "raw" = [114, 97, 119] ∧ codes ")" = [41] ∧ codes "," = [44] ∧ codes "|" = [124] ∧ codes "]" = [93] ∧ codes "[" = [91] ∧ codes "}" = [125] := by
  refine ⟨?_, ?_, ?_, ?_, ?_, ?_, ?_, ?_⟩ <;> kernel_rfl
noncomputable def addRow (o : Option (List Nat)) (acc : List D) (x : D) : List D := (if acc.isEmpty = true then (match o with | some t => [rowR t] | none => []) else acc ++ [rowR [44]]) ++ [rowT x 999 true]
theorem addRow_len (o : Option (List Nat)) (acc : List D) (x : D) : (addRow o acc x).length ≤ acc.length + 2 := by
  unfold addRow
  by_cases h : acc.isEmpty = true
  · rw [if_pos h, List.length_append]
    cases o <;> exact Nat.le_add_left _ _
  · rw [if_neg h, ap1, ap1]; exact Nat.le_refl _
theorem rows_len (o : Option (List Nat)) (items : List D) : ∀ acc : List D, (items.foldl (addRow o) acc).length ≤ acc.length + 2 * items.length := by
  induction items with
  | nil => intro acc; exact Nat.le_refl _
  | cons x r ih =>
    intro acc
    have h1 := ih (addRow o acc x)
    have h2 := addRow_len o acc x
    rw [List.foldl_cons, List.length_cons]
    exact lin (ad h1 h2)
theorem ap2 {α : Type} (A : List α) (x y : α) : A ++ [x, y] = A ++ [x] ++ [y] := (List.append_assoc A [x] [y]).symm
theorem rR {t : String} {l : List Nat} (h : codes t = l) : rowR l = .tup [.str (codes "raw"), .str (codes t), .int 0, .boo false] := by rw [h, cR.2.1]; rfl
theorem rT (x : D) (m : Int) (al : Bool) : rowT x m al = .tup [.str (codes "term"), x, .int m, .boo al] := by rw [cR.1]; rfl
theorem add_nil (o : Option (List Nat)) {acc : List D} (x : D) (h : acc.isEmpty = true) : addRow o acc x = acc ++ (match o with | some t => [rowR t] | none => []) ++ [rowT x 999 true] := by
  unfold addRow; rw [if_pos h, List.isEmpty_iff.mp h]; rfl
theorem add_cons (o : Option (List Nat)) {acc : List D} (x : D) (h : ¬ acc.isEmpty = true) : addRow o acc x = acc ++ [rowR [44]] ++ [rowT x 999 true] := by
  unfold addRow; rw [if_neg h]
theorem wl_loop {C N : CallT} {t0 t1 t2 t3 : Option AV} {p : Pos} {st : List AO} {Q : Fl → Vars → List AO → Prop} : ∀ (items acc : List D) (x5 : Option AV), acc.length + 2 * items.length ≤ big →
    (∀ y, Q .nx [t0, t1, t2, t3, some (.own (items.foldl (addRow none) acc)), y] st) → loopF (.nm 5 p) (fun vs st Q => wpSs P0 C N (forB ir39 3) vs st Q) items [t0, t1, t2, t3, some (.own acc), x5] st Q := by
  intro items
  induction items with
  | nil => intro acc x _ q; exact q x
  | cons x r ih =>
    intro acc x5 h q
    rw [List.length_cons] at h
    have hlen := addRow_len none acc x
    have key := ih (addRow none acc x) (some (.d x)) (lin (ad h hlen)) q
    refine an rfl (exT (.own (l := acc) (lin h)) ?_)
    refine ifC (fun e => ?_) (fun e => ?_)
    · rw [add_cons none x (fun c => Bool.false_ne_true ((nb e).symm.trans c)), rR cR.2.2.2.1, rT] at key
      exact an bg4 (an (lin h) (an bg4 (an (by rw [ap1]; exact lin h) key)))
    · rw [add_nil none x (nf e), rT, List.append_nil] at key
      exact an bg4 (an (lin h) key)
theorem wf_loop {C N : CallT} {t0 t1 : Option AV} {p : Pos} {st : List AO} {Q : Fl → Vars → List AO → Prop} : ∀ (items acc : List D) (x5 : Option AV), acc.length + 2 * items.length ≤ big →
    (∀ y, Q .nx [t0, t1, some (.own (items.foldl (addRow (some [40])) acc)), y] st) → loopF (.nm 3 p) (fun vs st Q => wpSs P0 C N (forB ir40 2) vs st Q) items [t0, t1, some (.own acc), x5] st Q := by
  intro items
  induction items with
  | nil => intro acc x _ q; exact q x
  | cons x r ih =>
    intro acc x5 h q
    rw [List.length_cons] at h
    have hlen := addRow_len (some [40]) acc x
    have key := ih (addRow (some [40]) acc x) (some (.d x)) (lin (ad h hlen)) q
    refine an rfl (exT (.own (l := acc) (lin h)) ?_)
    refine ifC (fun e => ?_) (fun e => ?_)
    · rw [add_cons _ x (fun c => Bool.false_ne_true ((nb e).symm.trans c)), rR cR.2.2.2.1, rT] at key
      exact an bg4 (an (lin h) (an bg4 (an (by rw [ap1]; exact lin h) key)))
    · rw [add_nil _ x (nf e), rT] at key
      replace key : loopF (.nm 3 p) (fun vs st Q => wpSs P0 C N (forB ir40 2) vs st Q) r [t0, t1, some (.own (acc ++ [rowR [40]] ++ [.tup [.str (codes "term"), x, .int 999, .boo true]])), some (.d x)] st Q := key
      rw [rR codes1.2.1] at key
      exact an bg4 (an (lin h) (an bg4 (an (by rw [ap1]; exact lin h) key)))
theorem eq_nilT {st : List AO} (tg : List Nat) (k : Int) (l : List D) : CA st .NotEq (.d (.tup (.str tg :: .int k :: l))) (.d (.tup [.str (codes "a"), .int 0])) (!((tg == [97]) && ((k == 0) && l.isEmpty))) := by
  rw [cA.1]
  refine .d (.ne (.tup (.cc (.ss _ _) (.cc (.ii _ _) ?_))))
  cases l
  · exact .nn
  · exact .cn _ _
variable {CW NW : Nat → CallT} (K : Wk CW NW)
include K
theorem c_list_items (n : Nat) (tg : List Nat) (k : Int) (l : List D) (ht : ((tg == [115]) && (k == 0)) = false) (items : List D) (h : items.length ≤ big) (st : List AO) :
    RC (CW (n + 1)) 9 [.d (encL (.tup (.str tg :: .int k :: l)) items)] st (.d (.tup [.lst items, .tup (.str tg :: .int k :: l)])) st := by
  intro Q q
  refine K.c (fi := fi9) (ir := ir9) rfl rfl rfl ?_
  refine an (Nat.lt_succ_self 1) (an (Nat.zero_le _) (Exists.intro (items.length + 1) ?_))
  refine items_loop tg k l ht items [] (by rw [List.length_nil]; exact lin h) ?_
  exact an bg2 q
noncomputable def rowsL (tl : D) (nil : Bool) (items : List D) : List D := items.foldl (addRow none) [] ++ (if nil = true then [] else [rowR [124], rowT tl 999 true]) ++ [rowR [93]]
noncomputable def rowsF (items : List D) : List D := items.foldl (addRow (some [40])) [] ++ [rowR [41]]
section
variable (n : Nat) (b : Bs) (out work : List D) (last : List Nat) (pf : Bool) (hl : last = [] ∨ ∃ l, last = [l]) (ho : out.length + 8 ≤ big)
include hl ho
theorem c_wlist (tg : List Nat) (k : Int) (l : List D) (ht : ((tg == [115]) && (k == 0)) = false) (items : List D) (h : work.length + 2 * items.length + 4 ≤ big) :
    RC (CW (n + 6)) 39 [.ob 10, .d (encL (.tup (.str tg :: .int k :: l)) items)] (wst b out work last pf) (.d .non)
      (wst b (out ++ sp last pf 91 ++ [.str [91]]) (work ++ (rowsL (.tup (.str tg :: .int k :: l)) ((tg == [97]) && ((k == 0) && l.isEmpty)) items).reverse) [91] false) := by
  intro Q q
  refine K.c (fi := fi39) (ir := ir39) rfl rfl rfl ?_
  have hf := rows_len none items []
  rw [List.length_nil] at hf
  refine c_list_items K (n + 4) tg k l ht items (lin h) _ _ ?_
  refine tok_ K n b out work last pf (cR.2.2.2.2.2.2.1 ▸ Wt.one 91) hl (lin ho) _ ?_
  rw [cR.2.2.2.2.2.2.1]
  refine an (by exact Nat.le_of_ble_eq_true rfl) (an (Nat.zero_le _) ?_)
  refine exF (.lst (lin h)) ?_
  refine wl_loop items [] _ (by rw [List.length_nil]; exact lin h) fun y => ?_
  refine an bg2 (exC (eq_nilT tg k l) ?_)
  refine ifC (fun e => ?_) (fun e => ?_)
  · have el : rowsL (.tup (.str tg :: .int k :: l)) false items = items.foldl (addRow none) [] ++ [.tup [.str (codes "raw"), .str (codes "|"), .int 0, .boo false]] ++ [.tup [.str (codes "term"), .tup (.str tg :: .int k :: l), .int 999, .boo true]] ++ [.tup [.str (codes "raw"), .str (codes "]"), .int 0, .boo false]] := by
      unfold rowsL
      rw [if_neg Bool.false_ne_true, rR cR.2.2.2.2.1, rR cR.2.2.2.2.2.1, rT, ap2]
    rw [nb e, el] at q
    refine an bg4 (an (lin (ad h hf)) (an bg4 (an (by rw [ap1]; exact lin (ad h hf)) (an bg4 (an (by rw [ap1, ap1]; exact lin (ad h hf)) ?_)))))
    refine c_later K (n + 4) b (out ++ sp last pf 91 ++ [.str [91]]) work [91] false _ ?_ _ ?_
    · rw [ap1, ap1, ap1]; exact lin (ad h hf)
    · exact q
  · have el : rowsL (.tup (.str tg :: .int k :: l)) true items = items.foldl (addRow none) [] ++ [.tup [.str (codes "raw"), .str (codes "]"), .int 0, .boo false]] := by
      unfold rowsL
      rw [if_pos rfl, List.append_nil, rR cR.2.2.2.2.2.1]
    rw [nf e, el] at q
    refine an bg4 (an (lin (ad h hf)) ?_)
    refine c_later K (n + 4) b (out ++ sp last pf 91 ++ [.str [91]]) work [91] false _ ?_ _ ?_
    · rw [ap1]; exact lin (ad h hf)
    · exact q
theorem c_wfun {t : List Nat} {f0 c : Nat} (w : Wt t f0 c) (a : Nat) (t0 : List Nat) (ht : t = wtx b.qt t0) (hx : b.texts[a]? = some (.str t0)) (ha : a < 4294967296) (hp : okQ t0) (f : Nat) (hf : f < 4294967296) (ar : D) (hfs : b.fs[f]? = some (.tup [.int a, ar])) (items : List D) (h : work.length + 2 * items.length + 4 ≤ big) :
    RC (CW (n + 6)) 40 [.ob 10, .d (tS f items)] (wst b out work last pf) (.d .non) (wst b (out ++ sp last pf f0 ++ [.str t]) (work ++ (rowsF items).reverse) [c] false) := by
  intro Q q
  refine K.c (fi := fi40) (ir := ir40) rfl rfl rfl ?_
  have hf' := rows_len (some [40]) items []
  rw [List.length_nil] at hf'
  refine exI ix1 ?_
  refine c_name K (n + 4) b _ f (.int a) ar hfs hf _ ?_
  refine txt_ K n b out w a t0 ht hx ha hp ho _ _ ?_
  refine tok_ K n b out work last pf w hl (lin ho) _ ?_
  refine an (by exact Nat.le_of_ble_eq_true rfl) (an (Nat.zero_le _) ?_)
  refine exI ix2 (exF (.tup (lin h)) ?_)
  refine wf_loop items [] _ (by rw [List.length_nil]; exact lin h) fun y => ?_
  have el : rowsF items = items.foldl (addRow (some [40])) [] ++ [.tup [.str (codes "raw"), .str (codes ")"), .int 0, .boo false]] := by
    unfold rowsF; rw [rR cR.2.2.1]
  rw [el] at q
  refine an bg4 (an (lin (ad h hf')) ?_)
  refine c_later K (n + 4) b (out ++ sp last pf f0 ++ [.str t]) work [c] false _ ?_ _ ?_
  · rw [ap1]; exact lin (ad h hf')
  · exact q
end
end Mn
end
section
namespace Mn
noncomputable def dropB : Nat → Ss → Ss
  | 0, s => s
  | k + 1, .cons _ r => dropB k r
  | _, .nil => .nil
noncomputable def parS (c : Bool) (b : Bs) (out work : List D) (last : List Nat) (pf : Bool) : List AO := if c = true then wst b (out ++ sp last pf 40 ++ [.str [40]]) work [40] false else wst b out work last pf
noncomputable def parE (c : Bool) : List D := if c = true then [rowR [41]] else []
theorem w_asg {C N : CallT} {i : Nat} {p q : Pos} {x : X} {r : Ss} {vs : Vars} {st st' : List AO} {Q : Fl → Vars → List AO → Prop} {v : AV} (hx : ∀ Q' : AV → List AO → Prop, Q' v st' → wpX P0 C N x false vs st Q') (hi : i < vs.length) (k : wpSs P0 C N r (vs.set i (some v)) st' Q) : wpSs P0 C N (.cons (.asg (.nm i p) x q) r) vs st Q := hx _ (by
  show (match (if i < vs.length then some (vs.set i (some v)) else none) with | some vs => _ | none => False)
  rw [if_pos hi]
  exact k)
theorem w_own {C N : CallT} {i : Nat} {pn ap pc p : Pos} {x : X} {r : Ss} {vs : Vars} {st st' : List AO} {Q : Fl → Vars → List AO → Prop} {v : D} {acc : List D} (h0 : vs.getD i none = some (.own acc)) (hx : ∀ Q' : AV → List AO → Prop, Q' (.d v) st' → wpX P0 C N x false vs st Q') (hl : acc.length ≤ big) (k : wpSs P0 C N r (vs.set i (some (.own (acc ++ [v])))) st' Q) : wpSs P0 C N (.cons (.ownA i x pn ap pc p) r) vs st Q := by
  show (match vs.getD i none with | some (.own l) => _ | _ => False)
  rw [h0]
  exact hx _ ⟨hl, k⟩
variable {CW NW : Nat → CallT} (K : Wk CW NW)
include K
section
variable (n : Nat) (b : Bs) (out work : List D) (last : List Nat) (pf : Bool)
theorem wop_start (hl : last = [] ∨ ∃ l, last = [l]) (ho : out.length + 8 ≤ big) (f a : Nat) (l : List D) (hf : f < 4294967296) (ar : D) (hfs : b.fs[f]? = some (.tup [.int a, ar])) (kd : List Nat) (h m : Int) (k : Kd) {Q : AV → List AO → Prop}
    (H : wpSs P0 (CW (n + 5)) (NW (n + 5)) (dropB 6 ir42) [some (.ob 10), some (.d (tS f l)), some (.d (.tup [.str kd, .int h, .str k.s])), some (.d (.int m)), some (.d (.str kd)), some (.d (.int h)), some (.d (.str k.s)), some (.d (.int (k.lb h))), some (.d (.int (k.rb h))), some (.d (.int a)), some (.d (.tup l)), some (.own [])]
      (parS (decide (m < h)) b out work last pf) (retQ Q)) : CW (n + 6) 42 [.ob 10, .d (tS f l), .d (.tup [.str kd, .int h, .str k.s]), .d (.int m)] (wst b out work last pf) Q := by
  refine K.c (fi := fi42) (ir := ir42) rfl rfl rfl ?_
  refine c_bounds K (n + 4) h k _ _ ?_
  refine exI ix1 ?_
  refine c_name K (n + 4) b _ f (.int a) ar hfs hf _ ?_
  refine exI ix2 ?_
  refine an (by exact Nat.le_of_ble_eq_true rfl) (an (Nat.zero_le _) ?_)
  refine exC (.d (.gt _ _)) ?_
  unfold parS at H
  refine ifC (fun e => ?_) (fun e => ?_)
  · rw [if_pos e] at H
    refine tok_ K n b out work last pf (codes1.2.1 ▸ Wt.one 40) hl (lin ho) _ ?_
    rw [codes1.2.1]
    exact H
  · rw [if_neg e] at H
    exact H
theorem wop_end (acc : List D) (h m : Int) (v0 v1 v2 v4 v6 v7 v8 v9 : Option AV) (hw : work.length + acc.length + 1 ≤ big) {Q : AV → List AO → Prop} (q : Q (.d .non) (wst b out (work ++ (acc ++ parE (decide (m < h))).reverse) last pf)) :
    wpSs P0 (CW (n + 1)) (NW (n + 1)) (dropB 7 ir42) [some (.ob 10), v0, v1, some (.d (.int m)), v2, some (.d (.int h)), v4, v6, v7, v8, v9, some (.own acc)] (wst b out work last pf) (retQ Q) := by
  refine exC (.d (.gt _ _)) ?_
  unfold parE at q
  refine ifC (fun e => ?_) (fun e => ?_)
  · rw [if_pos e, rR cR.2.2.1] at q
    refine an bg4 (an (lin hw) ?_)
    refine c_later K n b out work last pf _ ?_ _ ?_
    · rw [ap1]; exact lin hw
    · exact q
  · rw [if_neg e, List.append_nil] at q
    refine c_later K n b out work last pf _ ?_ _ ?_
    · exact lin hw
    · exact q
end
section
variable (n : Nat) (b : Bs) (out work : List D) (last : List Nat) (pf : Bool) (hl : last = [] ∨ ∃ l, last = [l]) (ho : out.length + 8 ≤ big) (hw : work.length + 4 ≤ big) (f a : Nat) (hf : f < 4294967296) (ar : D) (hfs : b.fs[f]? = some (.tup [.int a, ar])) (h m ll : Int) (k : Kd)
include hl ho hw hf hfs
theorem c_wop_inf (x y : D) (HL : ∀ out last pf, RC (CW (n + 5)) 43 [.ob 10, .d x, .d (.int h), .d (.int (k.lb h))] (wst b out work last pf) (.d (.int ll)) (wst b out work last pf)) :
    RC (CW (n + 6)) 42 [.ob 10, .d (tS f [x, y]), .d (.tup [.str sInf, .int h, .str k.s]), .d (.int m)] (wst b out work last pf) (.d .non)
      (parS (decide (m < h)) b out (work ++ ([rowT x ll false, .tup [.str sInf, .int a, .int 0, .boo false], rowT y (k.rb h) false] ++ parE (decide (m < h))).reverse) last pf) := by
  intro Q q
  refine wop_start K n b out work last pf hl ho f a _ hf ar hfs _ h m k ?_
  have rest : ∀ out' last' pf', Q (.d .non) (wst b out' (work ++ ([rowT x ll false, .tup [.str sInf, .int a, .int 0, .boo false], rowT y (k.rb h) false] ++ parE (decide (m < h))).reverse) last' pf') → wpSs P0 (CW (n + 5)) (NW (n + 5)) (dropB 6 ir42) [some (.ob 10), some (.d (tS f [x, y])), some (.d (.tup [.str sInf, .int h, .str k.s])), some (.d (.int m)), some (.d (.str sInf)), some (.d (.int h)), some (.d (.str k.s)), some (.d (.int (k.lb h))), some (.d (.int (k.rb h))), some (.d (.int a)), some (.d (.tup [x, y])), some (.own [])]
      (wst b out' work last' pf') (retQ Q) := by
    intro out' last' pf' q
    rw [rT, rT] at q
    refine exC (eqL cI.2.1) (ifF (by decide) ?_)
    refine w_own rfl (fun Q' q => exI ix0 (exI ix0 (HL out' last' pf' _ (an bg4 q)))) (Nat.zero_le _) (w_own rfl (fun Q' q => an bg4 q) bg1 (exC (eqL cI.1) (ifT rfl ?_)))
    refine w_own rfl (fun Q' q => exI ix1 (an bg4 q)) bg2 ?_
    exact wop_end K (n + 4) b out' work last' pf' _ h m _ _ _ _ _ _ _ _ (by show _ + 3 + 1 ≤ _; exact lin hw) q
  unfold parS at q ⊢
  by_cases e : decide (m < h) = true
  · rw [if_pos e] at q ⊢; exact rest _ _ _ q
  · rw [if_neg e] at q ⊢; exact rest _ _ _ q
theorem c_wop_post (x : D) (HL : ∀ out last pf, RC (CW (n + 5)) 43 [.ob 10, .d x, .d (.int h), .d (.int (k.lb h))] (wst b out work last pf) (.d (.int ll)) (wst b out work last pf)) :
    RC (CW (n + 6)) 42 [.ob 10, .d (tS f [x]), .d (.tup [.str sPost, .int h, .str k.s]), .d (.int m)] (wst b out work last pf) (.d .non)
      (parS (decide (m < h)) b out (work ++ ([rowT x ll false, .tup [.str sPost, .int a, .int 0, .boo false]] ++ parE (decide (m < h))).reverse) last pf) := by
  intro Q q
  refine wop_start K n b out work last pf hl ho f a _ hf ar hfs _ h m k ?_
  have rest : ∀ out' last' pf', Q (.d .non) (wst b out' (work ++ ([rowT x ll false, .tup [.str sPost, .int a, .int 0, .boo false]] ++ parE (decide (m < h))).reverse) last' pf') → wpSs P0 (CW (n + 5)) (NW (n + 5)) (dropB 6 ir42) [some (.ob 10), some (.d (tS f [x])), some (.d (.tup [.str sPost, .int h, .str k.s])), some (.d (.int m)), some (.d (.str sPost)), some (.d (.int h)), some (.d (.str k.s)), some (.d (.int (k.lb h))), some (.d (.int (k.rb h))), some (.d (.int a)), some (.d (.tup [x])), some (.own [])]
      (wst b out' work last' pf') (retQ Q) := by
    intro out' last' pf' q
    rw [rT] at q
    refine exC (eqL cI.2.1) (ifF (by decide) ?_)
    refine w_own rfl (fun Q' q => exI ix0 (exI ix0 (HL out' last' pf' _ (an bg4 q)))) (Nat.zero_le _) (w_own rfl (fun Q' q => an bg4 q) bg1 (exC (eqL cI.1) (ifF (by decide) ?_)))
    exact wop_end K (n + 4) b out' work last' pf' _ h m _ _ _ _ _ _ _ _ (by show _ + 2 + 1 ≤ _; exact lin hw) q
  unfold parS at q ⊢
  by_cases e : decide (m < h) = true
  · rw [if_pos e] at q ⊢; exact rest _ _ _ q
  · rw [if_neg e] at q ⊢; exact rest _ _ _ q
theorem c_wop_pre (x : D) {Q : AV → List AO → Prop} (out' : List D) (last' : List Nat) (pf' : Bool) (e : parS (decide (m < h)) b out work last pf = wst b out' work last' pf')
    (HP : ∀ Q' : AV → List AO → Prop, (∀ v out'' last'' pf'', Q (.d .non) (wst b out'' (work ++ ([rowT x (k.rb h) false] ++ parE (decide (m < h))).reverse) last'' pf'') → Q' v (wst b out'' work last'' pf'')) → CW (n + 5) 44 [.ob 10, .d (.int a)] (wst b out' work last' pf') Q') :
    CW (n + 6) 42 [.ob 10, .d (tS f [x]), .d (.tup [.str sPre, .int h, .str k.s]), .d (.int m)] (wst b out work last pf) Q := by
  refine wop_start K n b out work last pf hl ho f a _ hf ar hfs _ h m k ?_
  rw [e]
  refine exC (eqL cI.2.1) ?_
  refine HP _ fun v out'' last'' pf'' q => ?_
  rw [rT] at q
  refine exI ix0 (an bg4 (an (Nat.zero_le _) ?_))
  exact wop_end K (n + 4) b out'' work last'' pf'' _ h m _ _ _ _ _ _ _ _ (by show _ + 1 + 1 ≤ _; exact lin hw) q
end
end Mn
end
section
namespace Mn
noncomputable def tA (a : Nat) : D := .tup [.str [97], .int a]
noncomputable def tV (k : Nat) : D := .tup [.str [118], .int k]
noncomputable def tI (v : Int) : D := .tup [.str [105], .int v]
theorem Wt.mk' {t : List Nat} (h : t ≠ []) (hl : t.length ≤ 1000) : Wt t (t.headD 0) (t.getLastD 0) := by
  cases t with
  | nil => exact absurd rfl h
  | cons a r =>
    refine ⟨⟨r, rfl⟩, (a :: r).dropLast, ?_, ?_⟩
    · have := List.dropLast_concat_getLast (l := a :: r) h
      rw [List.getLastD_cons, ← List.getLast_eq_getLastD]
      exact this.symm
    · rw [List.length_dropLast]; omega
theorem wt_var {k : Int} (hl : (codes (toString k)).length ≤ 100) : Wt (varN k) ((varN k).headD 0) ((varN k).getLastD 0) := Wt.mk' (fun c => by cases c) (by show _ + 1 ≤ _; exact lin hl)
noncomputable def elsB : Ss → Ss
  | .cons (.iff _ _ e _) _ => e
  | s => s
variable {CW NW : Nat → CallT} (K : Wk CW NW)
include K
section
variable (n : Nat) (b : Bs) (out work : List D) (last : List Nat) (pf al : Bool) (m : Int)
theorem w_var (k : Nat) (hk : k < 1000) (hc : (codes (toString (k : Int))).length ≤ 100) (hl : last = [] ∨ ∃ l, last = [l]) (ho : out.length + 1 ≤ big) :
    RC (CW (n + 6)) 36 [.ob 10, .d (tV k), .d (.int m), .d (.boo al)] (wst b out work last pf) (.d .non) (wst b (out ++ sp last pf ((varN k).headD 0) ++ [.str (varN k)]) work [(varN k).getLastD 0] false) := by
  intro Q q
  refine K.c (fi := fi36) (ir := ir36) rfl rfl rfl ?_
  refine exI ix0 ?_
  refine exC (eqL cA.2.1) ?_
  refine exI ix1 (c_variable K (n + 4) b out work last pf k (by omega) hc _ ?_)
  exact tok_ K n b out work last pf (wt_var hc) hl ho _ q
theorem w_int (v : Int) (hv : v.natAbs < 1000) (hc : (codes (toString (v.natAbs : Int))).length ≤ 100) (hw : Wt (numN v) ((numN v).headD 0) ((numN v).getLastD 0)) (hl : last = [] ∨ ∃ l, last = [l]) (ho : out.length + 1 ≤ big) :
    RC (CW (n + 6)) 36 [.ob 10, .d (tI v), .d (.int m), .d (.boo al)] (wst b out work last pf) (.d .non) (wst b (out ++ sp last pf ((numN v).headD 0) ++ [.str (numN v)]) work [(numN v).getLastD 0] false) := by
  intro Q q
  refine K.c (fi := fi36) (ir := ir36) rfl rfl rfl ?_
  refine exI ix0 ?_
  refine exC (eqL cA.2.1) ?_
  refine exC (eqL cA.2.2.1) ?_
  refine exI ix1 (c_number K (n + 4) v hv hc _ _ ?_)
  exact tok_ K n b out work last pf hw hl ho _ q
theorem w_atom (a : Nat) {Q : AV → List AO → Prop} (H : CW n 38 [.ob 10, .d (.int a), .d (.boo al)] (wst b out work last pf) fun _ st => Q (.d .non) st) :
    CW (n + 1) 36 [.ob 10, .d (tA a), .d (.int m), .d (.boo al)] (wst b out work last pf) Q := by
  refine K.c (fi := fi36) (ir := ir36) rfl rfl rfl ?_
  refine exI ix0 ?_
  refine exC (eqL cA.2.1) ?_
  refine exC (eqL cA.2.2.1) ?_
  refine exC (eqL cA.1) ?_
  exact exI ix1 H
theorem w_list (l : List D) {Q : AV → List AO → Prop} (H : CW n 39 [.ob 10, .d (tS 0 l)] (wst b out work last pf) fun _ st => Q (.d .non) st) :
    CW (n + 1) 36 [.ob 10, .d (tS 0 l), .d (.int m), .d (.boo al)] (wst b out work last pf) Q := by
  refine K.c (fi := fi36) (ir := ir36) rfl rfl rfl ?_
  refine exI ix0 ?_
  refine exC (eqL cA.2.1) ?_
  refine exC (eqL cA.2.2.1) ?_
  refine exC (eqL cA.1) ?_
  refine exI ix1 (exC CD.eqI ?_)
  exact H
theorem w_curly (x : D) (hig : b.ig = false) (hl : last = [] ∨ ∃ l, last = [l]) (ho : out.length + 8 ≤ big) (hw : work.length + 4 ≤ big) :
    RC (CW (n + 6)) 36 [.ob 10, .d (tS 9 [x]), .d (.int m), .d (.boo al)] (wst b out work last pf) (.d .non) (wst b (out ++ sp last pf 123 ++ [.str [123]]) (work ++ [rowR [125], rowT x 1201 true]) [123] false) := by
  intro Q q
  refine K.c (fi := fi36) (ir := ir36) rfl rfl rfl ?_
  rw [rR cR.2.2.2.2.2.2.2, rT] at q
  refine exI ix0 ?_
  refine exC (eqL cA.2.1) ?_
  refine exC (eqL cA.2.2.1) ?_
  refine exC (eqL cA.1) ?_
  refine exI ix1 (exC CD.eqI ?_)
  refine c_numbered K b (wxr b out work last pf) (n + 4) _ _ ?_
  refine exI ix1 (exC CD.eqI ?_)
  refine ifT (by show (!b.ig) = true; rw [hig]; rfl) ?_
  refine tok_ K n b out work last pf (cA.2.2.2.2 ▸ Wt.one 123) hl (lin ho) _ ?_
  rw [cA.2.2.2.2]
  refine exI ix2 (exI ix0 (an bg4 (an bg4 (an bg2 ?_))))
  refine c_later K (n + 4) b _ work [123] false _ ?_ _ ?_
  · show work.length + 2 ≤ big; exact lin hw
  · exact q
theorem w_sh (f : Nat) (l : List D) (h0 : f ≠ 0) (h9 : f ≠ 9 ∨ b.ig = true) (q : D) {Q : AV → List AO → Prop} (HS : RC (CW (n + 1)) 41 [.ob 10, .d (tS f l)] (wst b out work last pf) (.d q) (wst b out work last pf))
    (H : wpSs P0 (CW (n + 1)) (NW (n + 1)) (dropB 1 (elsB (elsB (elsB (elsB (elsB (elsB (dropB 1 ir36)))))))) [some (.ob 10), some (.d (tS f l)), some (.d (.int m)), some (.d (.boo al)), some (.d (.str [115])), some (.d q)] (wst b out work last pf) (retQ Q)) :
    CW (n + 2) 36 [.ob 10, .d (tS f l), .d (.int m), .d (.boo al)] (wst b out work last pf) Q := by
  refine K.c (fi := fi36) (ir := ir36) rfl rfl rfl ?_
  refine exI ix0 ?_
  refine exC (eqL cA.2.1) ?_
  refine exC (eqL cA.2.2.1) ?_
  refine exC (eqL cA.1) ?_
  refine exI ix1 (exC CD.eqI ?_)
  refine ifF (beqI (by omega)) ?_
  refine c_numbered K b (wxr b out work last pf) n _ _ ?_
  refine exI ix1 (exC CD.eqI ?_)
  refine ifB (fun e => ?_) (fun e => ?_)
  · refine ifF (fun c => Bool.false_ne_true (e.symm.trans c)) ?_
    refine HS _ ?_
    exact H
  · have hi : b.ig = true := h9.resolve_left fun c => absurd e (beqI (by omega))
    refine ifF (by show ¬ (!b.ig) = true; rw [hi]; decide) ?_
    refine HS _ ?_
    exact H
theorem w_op (f : Nat) (l : List D) (h0 : f ≠ 0) (h9 : f ≠ 9 ∨ b.ig = true) (q : List D) {Q : AV → List AO → Prop} (HS : RC (CW (n + 1)) 41 [.ob 10, .d (tS f l)] (wst b out work last pf) (.d (.tup q)) (wst b out work last pf))
    (H : CW (n + 1) 42 [.ob 10, .d (tS f l), .d (.tup q), .d (.int m)] (wst b out work last pf) fun _ st => Q (.d .non) st) :
    CW (n + 2) 36 [.ob 10, .d (tS f l), .d (.int m), .d (.boo al)] (wst b out work last pf) Q := by
  refine w_sh K n b out work last pf al m f l h0 h9 _ HS ?_
  refine exC (.d (.is_ _)) ?_
  exact H
theorem w_fn (f : Nat) (l : List D) (h0 : f ≠ 0) (h9 : f ≠ 9 ∨ b.ig = true) {Q : AV → List AO → Prop} (HS : RC (CW (n + 1)) 41 [.ob 10, .d (tS f l)] (wst b out work last pf) (.d .non) (wst b out work last pf))
    (H : CW (n + 1) 40 [.ob 10, .d (tS f l)] (wst b out work last pf) fun _ st => Q (.d .non) st) :
    CW (n + 2) 36 [.ob 10, .d (tS f l), .d (.int m), .d (.boo al)] (wst b out work last pf) Q := by
  refine w_sh K n b out work last pf al m f l h0 h9 _ HS ?_
  refine exC (.d (.is_ _)) ?_
  exact H
end
end Mn
end
section
namespace Mn
noncomputable def LW (CW NW : Nat → CallT) (n : Nat) (vs : Vars) (st : List AO) (Q : Fl → Vars → List AO → Prop) : Prop := ∃ fu, loopW (fun vs st Q => wpX P0 (CW n) (NW n) (whlT ir31 4) true vs st Q) (fun vs st Q => wpSs P0 (CW n) (NW n) (forB ir31 4) vs st Q) fu vs st Q
theorem pop_ (b : Bs) (out work : List D) (last : List Nat) (pf : Bool) (x : D) (h : work.length + 1 ≤ big) : MbR (wst b out (work ++ [x]) last pf) .pop (.ob 16) [] (.d x) (wst b out work last pf) := by
  have hp := MbR.pop (st := wst b out (work ++ [x]) last pf) (n := 16) (l := work ++ [x]) (x := x) rfl (by rw [ap1]; exact h) List.getLast?_concat
  rw [List.dropLast_concat] at hp
  exact hp
theorem more_ (b : Bs) (out work : List D) (last : List Nat) (pf : Bool) (x : D) (h : work.length + 1 ≤ big) : TrR (wst b out (work ++ [x]) last pf) (.ob 16) true := by
  have e : (!(work ++ [x]).isEmpty) = true := by cases work <;> rfl
  rw [← e]
  exact .ob rfl (by rw [ap1]; exact h)
variable {CW NW : Nat → CallT}
section
variable (n : Nat) (t m : AV) (k3 k4 k5 k6 : Option AV) (b : Bs) (out work : List D) (last : List Nat) (pf : Bool) {Q : Fl → Vars → List AO → Prop}
theorem lw_end (q : Q .nx [some (.ob 10), some t, some m, k3, k4, k5, k6] (wst b out [] last pf)) : LW CW NW n [some (.ob 10), some t, some m, k3, k4, k5, k6] (wst b out [] last pf) Q :=
  Exists.intro 1 (exT (b := false) (.ob (l := []) rfl (Nat.zero_le _)) q)
theorem lw_term (h : work.length + 1 ≤ big) (x : D) (l : Int) (al : Bool) (st' : List AO) (H : RC (CW n) 36 [.ob 10, .d x, .d (.int l), .d (.boo al)] (wst b out work last pf) (.d .non) st')
    (q : LW CW NW n [some (.ob 10), some t, some m, some (.d (.str [116, 101, 114, 109])), some (.d x), some (.d (.int l)), some (.d (.boo al))] st' Q) :
    LW CW NW n [some (.ob 10), some t, some m, k3, k4, k5, k6] (wst b out (work ++ [rowT x l al]) last pf) Q := by
  obtain ⟨fu, q⟩ := q
  refine Exists.intro (fu + 1) (exT (more_ b out work last pf _ h) ?_)
  refine an (.lst rfl rfl) (exM (pop_ b out work last pf _ h) ?_)
  refine exC (eqL cR.1) ?_
  exact H _ q
theorem lw_other (h : work.length + 1 ≤ big) (kd : List Nat) (it : D) (st' : List AO)
    (H : (kd = sInf ∧ RC (CW n) 45 [.ob 10, .d it] (wst b out work last pf) (.d .non) st') ∨ (kd = sPost ∧ RC (CW n) 46 [.ob 10, .d it] (wst b out work last pf) (.d .non) st') ∨ (kd = [114, 97, 119] ∧ RC (CW n) 32 [.ob 10, .d it] (wst b out work last pf) (.d .non) st'))
    (q : LW CW NW n [some (.ob 10), some t, some m, some (.d (.str kd)), some (.d it), some (.d (.int 0)), some (.d (.boo false))] st' Q) :
    LW CW NW n [some (.ob 10), some t, some m, k3, k4, k5, k6] (wst b out (work ++ [.tup [.str kd, it, .int 0, .boo false]]) last pf) Q := by
  obtain ⟨fu, q⟩ := q
  refine Exists.intro (fu + 1) (exT (more_ b out work last pf _ h) ?_)
  refine an (.lst rfl rfl) (exM (pop_ b out work last pf _ h) ?_)
  rcases H with ⟨rfl, H⟩ | ⟨rfl, H⟩ | ⟨rfl, H⟩
  · refine exC (eqL cR.1) ?_
    refine exC (eqL cI.1) ?_
    exact H _ q
  · refine exC (eqL cR.1) ?_
    refine exC (eqL cI.1) ?_
    refine exC (eqL cI.2.2) ?_
    exact H _ q
  · refine exC (eqL cR.1) ?_
    refine exC (eqL cI.1) ?_
    refine exC (eqL cI.2.2) ?_
    exact H _ q
end
noncomputable def Runs (CW NW : Nat → CallT) (n : Nat) (b : Bs) (s s' : List D × List D × List Nat × Bool) : Prop := ∀ (t m : AV) (Q : Fl → Vars → List AO → Prop), (∀ k3 k4 k5 k6 : Option AV, LW CW NW n [some (.ob 10), some t, some m, k3, k4, k5, k6] (wst b s'.1 s'.2.1 s'.2.2.1 s'.2.2.2) Q) → ∀ k3 k4 k5 k6 : Option AV, LW CW NW n [some (.ob 10), some t, some m, k3, k4, k5, k6] (wst b s.1 s.2.1 s.2.2.1 s.2.2.2) Q
theorem Runs.refl (n : Nat) (b : Bs) (s : List D × List D × List Nat × Bool) : Runs CW NW n b s s := fun _ _ _ h => h
theorem Runs.trans {n : Nat} {b : Bs} {s s' s'' : List D × List D × List Nat × Bool} (x : Runs CW NW n b s s') (y : Runs CW NW n b s' s'') : Runs CW NW n b s s'' := fun t m Q h => x t m Q (y t m Q h)
theorem runs_term {n : Nat} {b : Bs} {out w0 out' w' : List D} {last last' : List Nat} {pf pf' : Bool} (h : w0.length + 1 ≤ big) {x : D} {l : Int} {al : Bool}
    (H : RC (CW n) 36 [.ob 10, .d x, .d (.int l), .d (.boo al)] (wst b out w0 last pf) (.d .non) (wst b out' w' last' pf')) : Runs CW NW n b (out, w0 ++ [rowT x l al], last, pf) (out', w', last', pf') :=
  fun t m Q q k3 k4 k5 k6 => lw_term n t m k3 k4 k5 k6 b out w0 last pf h x l al _ H (q _ _ _ _)
theorem runs_other {n : Nat} {b : Bs} {out w0 out' w' : List D} {last last' : List Nat} {pf pf' : Bool} (h : w0.length + 1 ≤ big) {kd : List Nat} {it : D}
    (H : (kd = sInf ∧ RC (CW n) 45 [.ob 10, .d it] (wst b out w0 last pf) (.d .non) (wst b out' w' last' pf')) ∨ (kd = sPost ∧ RC (CW n) 46 [.ob 10, .d it] (wst b out w0 last pf) (.d .non) (wst b out' w' last' pf')) ∨ (kd = [114, 97, 119] ∧ RC (CW n) 32 [.ob 10, .d it] (wst b out w0 last pf) (.d .non) (wst b out' w' last' pf'))) :
    Runs CW NW n b (out, w0 ++ [.tup [.str kd, it, .int 0, .boo false]], last, pf) (out', w', last', pf') :=
  fun t m Q q k3 k4 k5 k6 => lw_other n t m k3 k4 k5 k6 b out w0 last pf h kd it _ H (q _ _ _ _)
end Mn
end
section
namespace Mn
inductive T where
  | a (i : Nat)
  | vr (k : Nat)
  | nu (n : Int)
  | f1 (f : Nat) (x : T)
  | f2 (f : Nat) (x y : T)
  | cu (x : T)
  | dot (x y : T)
noncomputable def T.enc : T → D
  | .a i => tA i
  | .vr k => tV k
  | .nu n => tI n
  | .f1 f x => tS f [x.enc]
  | .f2 f x y => tS f [x.enc, y.enc]
  | .cu x => tS 9 [x.enc]
  | .dot x y => tS 0 [x.enc, y.enc]
structure Cx where
  tx : Nat → List Nat
  fn : Nat → Nat
  pre : Nat → Option (Int × Kd)
  inf : Nat → Option (Int × Kd)
  post : Nat → Option (Int × Kd)
  ig : Bool
noncomputable def Cx.op (cx : Cx) (i : Nat) : Bool := (cx.pre i).isSome || ((cx.inf i).isSome || (cx.post i).isSome)
abbrev S3 := List D × List Nat × Bool
noncomputable def S3.st (b : Bs) (w : List D) (s : S3) : List AO := wst b s.1 w s.2.1 s.2.2
noncomputable def S3.raw (t : List Nat) (s : S3) : S3 := (s.1 ++ [.str t], [t.getLastD 0], false)
noncomputable def S3.tk (t : List Nat) (s : S3) : S3 := (s.1 ++ sp s.2.1 s.2.2 (t.headD 0) ++ [.str t], [t.getLastD 0], false)
noncomputable def S3.oPre (t : List Nat) (s : S3) : S3 := if tightN t = true then ((s.tk t).1, (s.tk t).2.1, true) else (s.tk t).raw [32]
noncomputable def S3.oInf (c : Bool) (t : List Nat) (s : S3) : S3 := if c = true then s.raw [44] else if tightN t = true then s.tk t else ((s.raw [32]).raw t).raw [32]
noncomputable def S3.oPost (t : List Nat) (s : S3) : S3 := if tightN t = true then s.tk t else (s.raw [32]).raw t
noncomputable def S3.at (op : Bool) (t : List Nat) (s : S3) : S3 := if op = true then ((s.tk [40]).raw t).raw [41] else s.tk t
noncomputable def S3.po (c : Bool) (s : S3) : S3 := if c = true then s.tk [40] else s
noncomputable def S3.pc (c : Bool) (s : S3) : S3 := if c = true then s.raw [41] else s
noncomputable def S3.tb (tl : Bool) (s : S3) : S3 := if tl = true then s.raw [124] else s
noncomputable def S3.te (tl : Bool) (s : S3) : S3 := if tl = true then s.raw [93] else s
section
variable (cx : Cx)
noncomputable def T.nn : T → Bool
  | .nu n => decide (0 ≤ n)
  | _ => false
noncomputable def T.shape : T → Option (Nat × Int × Kd)
  | .f1 f x => if cx.ig = true then none else (match cx.pre (cx.fn f) with
    | some p => if (cx.fn f == 3 && x.nn) = true then none else some (0, p)
    | none => (match cx.post (cx.fn f) with | some p => some (2, p) | none => none))
  | .f2 f _ _ => if cx.ig = true then none else (match cx.inf (cx.fn f) with | some p => some (1, p) | none => none)
  | _ => none
noncomputable def T.ll (t : T) (h m : Int) : Int := match t.shape cx with
  | some (_, h', k) => if h' = h ∧ k.rb h' = h then h - 1 else m
  | none => m
noncomputable def rn : T → Bool → Bool → Int → S3 → S3
  | .a i, tl, al, _, s => if (tl && i == 0) = true then s.raw [93] else ((s.tb tl).at (!(al || tl) && cx.op i) (cx.tx i)).te tl
  | .vr k, tl, _, _, s => ((s.tb tl).tk (varN k)).te tl
  | .nu n, tl, _, _, s => ((s.tb tl).tk (numN n)).te tl
  | .f1 f x, tl, _, m, s => S3.te tl (match (T.f1 f x).shape cx with
      | some (0, h, k) => (rn x false false (k.rb h) (((S3.tb tl s).po (decide (m < h))).oPre (cx.tx (cx.fn f)))).pc (decide (m < h))
      | some (_, h, k) => ((rn x false false (x.ll cx h (k.lb h)) ((S3.tb tl s).po (decide (m < h)))).oPost (cx.tx (cx.fn f))).pc (decide (m < h))
      | none => (rn x false true 999 (((S3.tb tl s).tk (cx.tx (cx.fn f))).raw [40])).raw [41])
  | .f2 f x y, tl, _, m, s => S3.te tl (match (T.f2 f x y).shape cx with
      | some (_, h, k) => (rn y false false (k.rb h) ((rn x false false (x.ll cx h (k.lb h)) ((S3.tb tl s).po (decide (m < h)))).oInf (cx.fn f == 7) (cx.tx (cx.fn f)))).pc (decide (m < h))
      | none => (rn y false true 999 ((rn x false true 999 (((S3.tb tl s).tk (cx.tx (cx.fn f))).raw [40])).raw [44])).raw [41])
  | .cu x, tl, _, _, s => S3.te tl (if cx.ig = true then (rn x false true 999 (((S3.tb tl s).tk (cx.tx (cx.fn 9))).raw [40])).raw [41] else (rn x false true 1201 ((S3.tb tl s).tk [123])).raw [125])
  | .dot x y, tl, _, _, s => rn y true true 999 (rn x false true 999 (if tl = true then s.raw [44] else s.tk [91]))
end
noncomputable def T.sz : T → Nat
  | .a _ => 1
  | .vr _ => 1
  | .nu _ => 1
  | .f1 _ x => x.sz + 1
  | .f2 _ x y => x.sz + y.sz + 1
  | .cu x => x.sz + 1
  | .dot x y => x.sz + y.sz + 1
noncomputable def Up (k : Nat) (s s' : S3) : Prop := s'.1.length ≤ s.1.length + k ∧ ∃ l, s'.2.1 = [l]
theorem Up.trans {k l : Nat} {s s' s'' : S3} (x : Up k s s') (y : Up l s' s'') : Up (k + l) s s'' := ⟨by have := x.1; have := y.1; omega, y.2⟩
theorem up_raw (t : List Nat) (s : S3) : Up 1 s (s.raw t) := ⟨by unfold S3.raw; rw [ap1]; exact Nat.le_refl _, _, rfl⟩
theorem up_tk (t : List Nat) (s : S3) : Up 2 s (s.tk t) := ⟨by unfold S3.tk; rw [ap1, List.length_append]; have := sp_len s.2.1 s.2.2 (t.headD 0); exact lin this, _, rfl⟩
theorem Up.mono {k l : Nat} {s s' : S3} (x : Up k s s') (h : k ≤ l) : Up l s s' := ⟨Nat.le_trans x.1 (Nat.add_le_add_left h _), x.2⟩
theorem up_pre (t : List Nat) (s : S3) : Up 3 s (s.oPre t) := by
  unfold S3.oPre
  by_cases h : tightN t = true
  · rw [if_pos h]; exact ⟨Nat.le_trans (up_tk t s).1 (Nat.le_succ _), (up_tk t s).2⟩
  · rw [if_neg h]; exact (up_tk t s).trans (up_raw _ _)
theorem up_inf (c : Bool) (t : List Nat) (s : S3) : Up 3 s (s.oInf c t) := by
  unfold S3.oInf
  cases c
  · by_cases h : tightN t = true
    · rw [if_neg Bool.false_ne_true, if_pos h]; exact (up_tk t s).mono (Nat.le_succ _)
    · rw [if_neg Bool.false_ne_true, if_neg h]; exact ((up_raw _ s).trans (up_raw _ _)).trans (up_raw _ _)
  · exact (up_raw _ s).mono (Nat.le_add_left 1 2)
theorem up_post (t : List Nat) (s : S3) : Up 3 s (s.oPost t) := by
  unfold S3.oPost
  by_cases h : tightN t = true
  · rw [if_pos h]; exact (up_tk t s).mono (Nat.le_succ _)
  · rw [if_neg h]; exact ((up_raw _ s).trans (up_raw _ _)).mono (Nat.le_succ _)
end Mn
end
section
namespace Mn
noncomputable def tb (p : Int × Kd) : D := .tup [.int p.1, .str p.2.s]
structure TxOk (b : Bs) (i : Nat) (t : List Nat) : Prop where
  e : ∃ t0, b.texts[i]? = some (.str t0) ∧ t = wtx b.qt t0 ∧ okQ t0
  w : Wt t (t.headD 0) (t.getLastD 0)
  l : i < 4294967296
theorem TxOk.len {b : Bs} {i : Nat} {t : List Nat} (h : TxOk b i t) : t.length ≤ 1000 := by
  obtain ⟨u, e, h⟩ := h.w.en
  rw [e, ap1]; exact h
structure Ok (cx : Cx) (b : Bs) (gA gF : Nat → Prop) : Prop where
  tx : ∀ i, gA i → TxOk b i (cx.tx i)
  fs : ∀ f, gF f → (∃ ar, b.fs[f]? = some (.tup [.int (cx.fn f : Nat), ar])) ∧ f < 4294967296 ∧ f ≠ 0 ∧ gA (cx.fn f)
  pre : ∀ i : Nat, DG b.pre (.int i) ((cx.pre i).map tb)
  inf : ∀ i : Nat, DG b.inf (.int i) ((cx.inf i).map tb)
  post : ∀ i : Nat, DG b.post (.int i) ((cx.post i).map tb)
  ig : b.ig = cx.ig
noncomputable def NumOk (v : Int) : Prop := v.natAbs < 1000 ∧ (codes (toString (v.natAbs : Int))).length ≤ 100 ∧ codes (toString (v.natAbs : Int)) ≠ []
noncomputable def VarOk (k : Nat) : Prop := k < 1000 ∧ (codes (toString (k : Int))).length ≤ 100
theorem num_len {v : Int} (h : NumOk v) : numN v ≠ [] ∧ (numN v).length ≤ 1000 := by
  unfold numN
  by_cases e : v < 0
  · rw [if_pos e]; exact ⟨List.cons_ne_nil _ _, by rw [List.length_cons]; have := h.2.1; exact lin this⟩
  · rw [if_neg e]; exact ⟨h.2.2, by have := h.2.1; exact lin this⟩
theorem wt_num {v : Int} (h : NumOk v) : Wt (numN v) ((numN v).headD 0) ((numN v).getLastD 0) := Wt.mk' (num_len h).1 (num_len h).2
noncomputable def T.wf (cx : Cx) (gA gF : Nat → Prop) : T → Prop
  | .a i => gA i
  | .vr k => VarOk k
  | .nu n => NumOk n
  | .f1 f x => (gF f ∧ f ≠ 9) ∧ x.wf cx gA gF
  | .f2 f x y => (gF f ∧ f ≠ 9) ∧ cx.fn f ≠ 8 ∧ x.wf cx gA gF ∧ y.wf cx gA gF
  | .cu x => gF 9 ∧ x.wf cx gA gF
  | .dot x y => x.wf cx gA gF ∧ y.wf cx gA gF
noncomputable def T.its : T → List D
  | .dot x y => x.enc :: y.its
  | _ => []
noncomputable def T.end_ : T → T
  | .dot _ y => y.end_
  | t => t
noncomputable def isNil : T → Bool
  | .a 0 => true
  | _ => false
noncomputable def rowsT : T → List D
  | .dot x y => rowR [44] :: rowT x.enc 999 true :: rowsT y
  | t => if isNil t = true then [rowR [93]] else [rowR [124], rowT t.enc 999 true, rowR [93]]
theorem enc_its (t : T) : encL t.end_.enc t.its = t.enc := by
  induction t with
  | dot x y _ ih => show tS 0 [x.enc, encL y.end_.enc y.its] = _; rw [ih]; rfl
  | _ => rfl
theorem its_sz (t : T) : t.its.length + 1 ≤ t.sz := by
  induction t with
  | dot x y _ ih => show y.its.length + 1 + 1 ≤ x.sz + y.sz + 1; exact lin ih
  | a => exact Nat.le_refl _
  | vr => exact Nat.le_refl _
  | nu => exact Nat.le_refl _
  | _ => exact Nat.le_add_left _ _
theorem rows_its (t : T) : ∀ acc : List D, acc.isEmpty = false → t.its.foldl (addRow none) acc ++ (if isNil t.end_ = true then [] else [rowR [124], rowT t.end_.enc 999 true]) ++ [rowR [93]] = acc ++ rowsT t := by
  induction t with
  | dot x y _ ih =>
    intro acc h
    show (y.its.foldl (addRow none) (addRow none acc x.enc)) ++ (if isNil y.end_ = true then [] else [rowR [124], rowT y.end_.enc 999 true]) ++ [rowR [93]] = acc ++ (rowR [44] :: rowT x.enc 999 true :: rowsT y)
    rw [ih, add_cons none x.enc (fun c => Bool.false_ne_true (h.symm.trans c)), List.append_assoc, List.append_assoc]
    · rfl
    · rw [add_cons none x.enc (fun c => Bool.false_ne_true (h.symm.trans c))]
      cases acc <;> rfl
  | a i =>
    intro acc _
    show acc ++ (if isNil (.a i) = true then _ else _) ++ _ = acc ++ if isNil (.a i) = true then _ else _
    by_cases h : isNil (.a i) = true
    · rw [if_pos h, if_pos h, List.append_nil]
    · rw [if_neg h, if_neg h, List.append_assoc]; rfl
  | _ => intro acc _; rw [List.append_assoc]; rfl
theorem rows_dot (x y : T) : rowsL y.end_.enc (isNil y.end_) (x.enc :: y.its) = rowT x.enc 999 true :: rowsT y := by
  unfold rowsL
  rw [List.foldl_cons, rows_its y _ (by rfl)]; rfl
theorem end_form (cx : Cx) (b : Bs) (gA gF : Nat → Prop) (ok : Ok cx b gA gF) (t : T) (h : t.wf cx gA gF) : ∃ tg k l, t.end_.enc = .tup (.str tg :: .int k :: l) ∧ ((tg == [115]) && (k == 0)) = false ∧ ((tg == [97]) && ((k == 0) && l.isEmpty)) = isNil t.end_ := by
  induction t with
  | dot x y _ ih => exact ih h.2
  | a i =>
    refine ⟨[97], i, [], rfl, rfl, ?_⟩
    cases i with
    | zero => rfl
    | succ i => show (((i + 1 : Nat) : Int) == 0 && true) = false; rw [Bool.and_true, beq_eq_false_iff_ne]; omega
  | vr k => exact ⟨[118], k, [], rfl, rfl, rfl⟩
  | nu n => exact ⟨[105], n, [], rfl, rfl, rfl⟩
  | f1 f x =>
    refine ⟨[115], f, [.tup [x.enc]], rfl, ?_, rfl⟩
    have := (ok.fs f h.1.1).2.2.1
    show ((f : Int) == 0) = false
    rw [beq_eq_false_iff_ne]; omega
  | f2 f x y =>
    refine ⟨[115], f, [.tup [x.enc, y.enc]], rfl, ?_, rfl⟩
    have := (ok.fs f h.1.1).2.2.1
    show ((f : Int) == 0) = false
    rw [beq_eq_false_iff_ne]; omega
  | cu x => exact ⟨[115], 9, [.tup [x.enc]], rfl, rfl, rfl⟩
structure Ad (k : Nat) (s s' : S3) : Prop where
  o : ∃ ss : List (List Nat), s'.1 = s.1 ++ ss.map .str ∧ (∀ x ∈ ss, x.length ≤ 1000) ∧ ss.length ≤ k
  l : ∃ l, s'.2.1 = [l]
theorem Ad.tr {k l : Nat} {s s' s'' : S3} (x : Ad k s s') (y : Ad l s' s'') : Ad (k + l) s s'' := by
  obtain ⟨a, e, h, g⟩ := x.o
  obtain ⟨c, e', h', g'⟩ := y.o
  refine ⟨⟨a ++ c, by rw [e', e, List.map_append, List.append_assoc], fun z hz => ?_, by rw [List.length_append]; exact lin (ad g g')⟩, y.l⟩
  rcases List.mem_append.mp hz with hz | hz
  · exact h z hz
  · exact h' z hz
theorem Ad.mono {k l : Nat} {s s' : S3} (x : Ad k s s') (h : k ≤ l) : Ad l s s' := by
  obtain ⟨a, e, g, q⟩ := x.o
  exact ⟨⟨a, e, g, Nat.le_trans q h⟩, x.l⟩
theorem Ad.len {k : Nat} {s s' : S3} (x : Ad k s s') : s'.1.length ≤ s.1.length + k := by
  obtain ⟨a, e, g, q⟩ := x.o
  rw [e, List.length_append, List.length_map]; exact lin q
theorem ad_raw {t : List Nat} (h : t.length ≤ 1000) (s : S3) : Ad 1 s (s.raw t) := ⟨⟨[t], rfl, fun x hx => by rw [List.mem_singleton.mp hx]; exact h, Nat.le_refl _⟩, _, rfl⟩
theorem ad_tk {t : List Nat} (h : t.length ≤ 1000) (s : S3) : Ad 2 s (s.tk t) := by
  refine ⟨?_, _, rfl⟩
  unfold S3.tk sp
  by_cases e : nsB s.2.1 s.2.2 (t.headD 0) = true
  · rw [if_pos e]
    refine ⟨[[32], t], by show s.1 ++ [.str [32]] ++ [.str t] = _; rw [List.append_assoc]; rfl, fun x hx => ?_, Nat.le_refl _⟩
    rcases List.mem_cons.mp hx with hx | hx
    · rw [hx]; decide
    · rw [List.mem_singleton.mp hx]; exact h
  · rw [if_neg e]
    exact ⟨[t], by show s.1 ++ [] ++ [.str t] = _; rw [List.append_nil]; rfl, fun x hx => by rw [List.mem_singleton.mp hx]; exact h, Nat.le_succ _⟩
theorem ad_pre {t : List Nat} (h : t.length ≤ 1000) (s : S3) : Ad 3 s (s.oPre t) := by
  unfold S3.oPre
  by_cases e : tightN t = true
  · rw [if_pos e]; have := (ad_tk h s).mono (Nat.le_succ _); exact ⟨this.o, this.l⟩
  · rw [if_neg e]; exact (ad_tk h s).tr (ad_raw (by decide) _)
theorem ad_inf (c : Bool) {t : List Nat} (h : t.length ≤ 1000) (s : S3) : Ad 3 s (s.oInf c t) := by
  unfold S3.oInf
  cases c
  · by_cases e : tightN t = true
    · rw [if_neg Bool.false_ne_true, if_pos e]; exact (ad_tk h s).mono (Nat.le_succ _)
    · rw [if_neg Bool.false_ne_true, if_neg e]; exact ((ad_raw (by decide) s).tr (ad_raw h _)).tr (ad_raw (by decide) _)
  · exact (ad_raw (by decide) s).mono (by decide)
theorem ad_post {t : List Nat} (h : t.length ≤ 1000) (s : S3) : Ad 3 s (s.oPost t) := by
  unfold S3.oPost
  by_cases e : tightN t = true
  · rw [if_pos e]; exact (ad_tk h s).mono (Nat.le_succ _)
  · rw [if_neg e]; exact ((ad_raw (by decide) s).tr (ad_raw h _)).mono (Nat.le_succ _)
theorem ad_at (c : Bool) {t : List Nat} (h : t.length ≤ 1000) (s : S3) : Ad 4 s (s.at c t) := by
  cases c
  · exact (ad_tk h s).mono (by decide)
  · exact ((ad_tk (by decide) s).tr (ad_raw h _)).tr (ad_raw (by decide) _)
theorem Ad.pc {k : Nat} {s s' : S3} (c : Bool) (x : Ad k s s') : Ad (k + 1) s (s'.pc c) := by
  cases c
  · exact x.mono (Nat.le_succ _)
  · exact x.tr (ad_raw (by decide) _)
theorem Ad.te {k : Nat} {s s' : S3} (c : Bool) (x : Ad k s s') : Ad (k + 1) s (s'.te c) := by
  cases c
  · exact x.mono (Nat.le_succ _)
  · exact x.tr (ad_raw (by decide) _)
theorem Ad.po {k : Nat} {s s' : S3} (c : Bool) (x : Ad k (s.po c) s') : Ad (2 + k) s s' := by
  cases c
  · exact x.mono (Nat.le_add_left _ _)
  · exact (ad_tk (t := [40]) (by decide) s).tr x
theorem Ad.tb {k : Nat} {s s' : S3} (c : Bool) (x : Ad k (s.tb c) s') : Ad (1 + k) s s' := by
  cases c
  · exact x.mono (Nat.le_add_left _ _)
  · exact (ad_raw (t := [124]) (by decide) s).tr x
theorem rn_ad {cx : Cx} {b : Bs} {gA gF : Nat → Prop} (ok : Ok cx b gA gF) (t : T) : t.wf cx gA gF → ∀ (tl al : Bool) (m : Int) (s : S3), Ad (8 * t.sz) s (rn cx t tl al m s) := by
  induction t with
  | a i =>
    intro h tl al m s
    show Ad 8 s (if (tl && i == 0) = true then s.raw [93] else ((s.tb tl).at (!(al || tl) && cx.op i) (cx.tx i)).te tl)
    by_cases e : (tl && i == 0) = true
    · rw [if_pos e]; exact (ad_raw (by decide) s).mono (by decide)
    · rw [if_neg e]; exact (Ad.tb tl (Ad.te tl (ad_at _ (ok.tx i h).len _))).mono (by decide)
  | vr k => intro h tl al m s; exact (Ad.tb tl (Ad.te tl (ad_tk (by have := h.2; show _ + 1 ≤ 1000; exact lin this) _))).mono (by show 4 ≤ 8 * 1; decide)
  | nu n => intro h tl al m s; exact (Ad.tb tl (Ad.te tl (ad_tk (num_len h).2 _))).mono (by show 4 ≤ 8 * 1; decide)
  | f1 f x ih =>
    intro h tl al m s
    have ht := (ok.tx _ (ok.fs f h.1.1).2.2.2).len
    have ih := ih h.2
    refine (Ad.tb (k := 8 * x.sz + 7) tl ?_).mono (by show _ ≤ 8 * (x.sz + 1); exact lin (Nat.le_refl 0))
    refine (Ad.te (k := 8 * x.sz + 6) tl ?_).mono (Nat.le_refl _)
    split
    · exact (Ad.pc _ (Ad.po _ ((ad_pre ht _).tr (ih _ _ _ _)))).mono (lin (Nat.le_refl 0))
    · exact (Ad.pc _ (Ad.po _ ((ih _ _ _ _).tr (ad_post ht _)))).mono (lin (Nat.le_refl 0))
    · exact ((((ad_tk ht _).tr (ad_raw (by decide) _)).tr (ih _ _ _ _)).tr (ad_raw (by decide) _)).mono (lin (Nat.le_refl 0))
  | f2 f x y ihx ihy =>
    intro h tl al m s
    have ht := (ok.tx _ (ok.fs f h.1.1).2.2.2).len
    have ihx := ihx h.2.2.1
    have ihy := ihy h.2.2.2
    refine (Ad.tb (k := 8 * x.sz + 8 * y.sz + 7) tl ?_).mono (by show _ ≤ 8 * (x.sz + y.sz + 1); exact lin (Nat.le_refl 0))
    refine (Ad.te (k := 8 * x.sz + 8 * y.sz + 6) tl ?_).mono (Nat.le_refl _)
    split
    · exact (Ad.pc _ (Ad.po _ (((ihx _ _ _ _).tr (ad_inf _ ht _)).tr (ihy _ _ _ _)))).mono (lin (Nat.le_refl 0))
    · exact ((((((ad_tk ht _).tr (ad_raw (by decide) _)).tr (ihx _ _ _ _)).tr (ad_raw (by decide) _)).tr (ihy _ _ _ _)).tr (ad_raw (by decide) _)).mono (lin (Nat.le_refl 0))
  | cu x ih =>
    intro h tl al m s
    have ht := (ok.tx _ (ok.fs 9 h.1).2.2.2).len
    have ih := ih h.2
    refine (Ad.tb (k := 8 * x.sz + 7) tl ?_).mono (by show _ ≤ 8 * (x.sz + 1); exact lin (Nat.le_refl 0))
    refine (Ad.te (k := 8 * x.sz + 6) tl ?_).mono (Nat.le_refl _)
    split
    · exact ((((ad_tk ht _).tr (ad_raw (by decide) _)).tr (ih _ _ _ _)).tr (ad_raw (by decide) _)).mono (lin (Nat.le_refl 0))
    · exact (((ad_tk (by decide) _).tr (ih _ _ _ _)).tr (ad_raw (by decide) _)).mono (lin (Nat.le_refl 0))
  | dot x y ihx ihy =>
    intro h tl al m s
    have key : Ad 2 s (if tl = true then s.raw [44] else s.tk [91]) := by
      cases tl
      · exact ad_tk (by decide) s
      · exact (ad_raw (by decide) s).mono (by decide)
    exact ((key.tr (ihx h.1 _ _ _ _)).tr (ihy h.2 _ _ _ _)).mono (by show _ ≤ 8 * (x.sz + y.sz + 1); exact lin (Nat.le_refl 0))
end Mn
end
section
namespace Mn
noncomputable def kdS : Nat → List Nat
  | 0 => sPre
  | 1 => sInf
  | _ => sPost
noncomputable def shV : Option (Nat × Int × Kd) → D
  | none => .non
  | some (j, h, k) => .tup [.str (kdS j), .int h, .str k.s]
theorem enc_form (t : T) : ∃ tg l, t.enc = .tup (.str tg :: l) ∧ ((tg == [105]) = false ∧ t.nn = false ∨ ∃ v, tg = [105] ∧ l = [.int v] ∧ t.nn = decide (0 ≤ v)) := by
  cases t with
  | nu n => exact ⟨_, _, rfl, .inr ⟨n, rfl, rfl, rfl⟩⟩
  | _ => exact ⟨_, _, rfl, .inl ⟨rfl, rfl⟩⟩
section
variable {s : S3}
theorem len_raw (t : List Nat) : (s.raw t).1.length = s.1.length + 1 := ap1 _ _
theorem len_tk (t : List Nat) : (s.tk t).1.length ≤ s.1.length + 2 := (up_tk t s).1
theorem len_po (c : Bool) : (s.po c).1.length ≤ s.1.length + 2 := by
  cases c
  · exact Nat.le_add_right _ _
  · exact (up_tk _ _).1
end
variable {CW NW : Nat → CallT} (K : Wk CW NW) {cx : Cx} {b : Bs} {gA gF : Nat → Prop} (ok : Ok cx b gA gF)
include K
section
variable (w : Wx) (hig : b.ig = false)
include hig
theorem c_shape2n (n : Nat) (x y : D) (f : Nat) (h0 : f ≠ 0) (h9 : f ≠ 9) (hf : f < 4294967296) (a ar : D) (hfs : b.fs[f]? = some (.tup [a, ar])) (hi : DG b.inf a none) :
    RC (CW (n + 3)) 41 [.ob 10, .d (tS f [x, y])] (xst b w) (.d .non) (xst b w) := by
  intro Q q
  refine shape_op K b w hig n _ f h0 h9 hf a ar hfs ?_
  refine exB (.lenT bg2) (exC CD.eqI ?_)
  refine c_infix K (n + 1) b _ a _ hi _ ?_
  refine exC (.d (.isN _)) ?_
  refine exB (.lenT bg2) (exC CD.eqI ?_)
  exact q
theorem c_shape1m (n : Nat) (x : T) (f : Nat) (h0 : f ≠ 0) (h9 : f ≠ 9) (hf : f < 4294967296) (a : Nat) (ar : D) (hfs : b.fs[f]? = some (.tup [.int a, ar])) (h k : D) (hi : DG b.pre (.int a) (some (.tup [h, k]))) :
    RC (CW (n + 3)) 41 [.ob 10, .d (tS f [x.enc])] (xst b w) (.d (if (a == 3 && x.nn) = true then .non else .tup [.str sPre, h, k])) (xst b w) := by
  intro Q q
  obtain ⟨tg, l, e, ht⟩ := enc_form x
  rw [e]
  refine shape_op K b w hig n _ f h0 h9 hf (.int a) ar hfs ?_
  refine exB (.lenT bg1) (exC CD.eqI ?_)
  refine exB (.lenT bg1) (exC CD.eqI ?_)
  refine c_prefix K (n + 1) b _ (.int a) _ hi _ ?_
  refine exC (.d (.isN _)) ?_
  have fin : (a == 3 && x.nn) = false → wpSs P0 (CW (n + 2)) (NW (n + 2)) (.cons (match ir41 with | .cons _ (.cons _ (.cons _ (.cons _ (.cons _ (.cons (.iff _ (.cons _ (.cons (.iff _ (.cons _ (.cons s _)) _ _) _)) _ _) _))))) => s | _ => .pas ⟨0,0,0,0⟩) .nil) [some (.ob 10), some (.d (tS f [.tup (.str tg :: l)])), some (.d (.int a)), some (.d (.tup [.tup (.str tg :: l)])), some (.d (.tup [h, k]))] (xst b w) (retQ Q) := by
    intro c
    rw [if_neg (fun d => Bool.false_ne_true (c.symm.trans d)), ← cI.2.1] at q
    refine exI ix0 ?_
    refine exI ix1 ?_
    exact an bg3 q
  have e3 : ((a : Int) == 3) = (a == 3) := by
    by_cases c : a = 3
    · rw [c]; rfl
    · rw [beq_eq_false_iff_ne.mpr c, beq_eq_false_iff_ne]; omega
  refine exC CD.eqI ?_
  refine ifB (fun e => ?_) (fun e => ?_)
  · refine ifF (fun c => Bool.false_ne_true (e.symm.trans c)) ?_
    exact fin (by rw [← e3, show ((a : Int) == 3) = false from e]; rfl)
  · have e : (a == 3) = true := e3 ▸ e
    rw [e] at fin q
    refine exI ix0 (exI ix0 (exC (eqL cA.2.2.1) ?_))
    rcases ht with ⟨ht, hn⟩ | ⟨v, rfl, rfl, hn⟩
    · rw [ht]
      exact fin hn
    · refine exI ix0 (exI ix1 (exC (.d (.ge _ _)) ?_))
      rw [hn] at fin q
      refine ifC (fun c => ?_) fun c => ?_
      · rw [c] at q; exact q
      · exact fin (eq_false_of_ne_true c)
end
include ok
theorem shape_x (n : Nat) (t : T) (h : t.wf cx gA gF) (w : Wx) : RC (CW (n + 3)) 41 [.ob 10, .d t.enc] (xst b w) (.d (shV (t.shape cx))) (xst b w) := by
  cases hc : cx.ig with
  | true =>
    have e : t.shape cx = none := by
      cases t with
      | f1 f x => exact if_pos hc
      | f2 f x y => exact if_pos hc
      | _ => rfl
    rw [e]
    exact c_shape_ig K b w (ok.ig.trans hc) (n + 1) _
  | false =>
  have hig := ok.ig.trans hc
  have hnc : ¬ cx.ig = true := fun c => Bool.false_ne_true (hc.symm.trans c)
  cases t with
  | a i => exact c_shape_atom K b w hig (n + 1) _ [97] rfl
  | vr k => exact c_shape_atom K b w hig (n + 1) _ [118] rfl
  | nu k => exact c_shape_atom K b w hig (n + 1) _ [105] rfl
  | cu x => exact c_shape_f K b w hig (n + 1) _ 9 (.inr rfl)
  | dot x y => exact c_shape_f K b w hig (n + 1) _ 0 (.inl rfl)
  | f1 f x =>
    obtain ⟨⟨ar, e1⟩, e2, e3, _⟩ := ok.fs f h.1.1
    have e4 := h.1.2
    have h1 := ok.pre (cx.fn f)
    have h2 := ok.post (cx.fn f)
    show RC _ _ [_, .d (tS f [x.enc])] _ (.d (shV (if cx.ig = true then none else (match cx.pre (cx.fn f) with | some p => if (cx.fn f == 3 && x.nn) = true then none else some (0, p) | none => (match cx.post (cx.fn f) with | some p => some (2, p) | none => none))))) _
    rw [if_neg hnc]
    cases ep : cx.pre (cx.fn f) with
    | some p =>
      rw [ep] at h1
      have r := c_shape1m K w hig n x f e3 e4 e2 _ ar e1 _ _ h1
      by_cases c : (cx.fn f == 3 && x.nn) = true
      · rw [if_pos c] at r
        show RC _ _ _ _ (.d (shV (if (cx.fn f == 3 && x.nn) = true then none else some (0, p)))) _
        rw [if_pos c]; exact r
      · rw [if_neg c] at r
        show RC _ _ _ _ (.d (shV (if (cx.fn f == 3 && x.nn) = true then none else some (0, p)))) _
        rw [if_neg c]; exact r
    | none =>
      rw [ep] at h1
      cases eq : cx.post (cx.fn f) with
      | some p => rw [eq] at h2; exact c_shape1q K b w hig n _ f e3 e4 e2 _ ar e1 h1 (some (.int p.1, .str p.2.s)) h2
      | none => rw [eq] at h2; exact c_shape1q K b w hig n _ f e3 e4 e2 _ ar e1 h1 none h2
  | f2 f x y =>
    obtain ⟨⟨ar, e1⟩, e2, e3, _⟩ := ok.fs f h.1.1
    have e4 := h.1.2
    have h1 := ok.inf (cx.fn f)
    show RC _ _ [_, .d (tS f [x.enc, y.enc])] _ (.d (shV (if cx.ig = true then none else (match cx.inf (cx.fn f) with | some p => some (1, p) | none => none)))) _
    rw [if_neg hnc]
    cases ep : cx.inf (cx.fn f) with
    | some p => rw [ep] at h1; exact c_shape2 K b w hig n _ _ f e3 e4 e2 _ ar e1 _ _ h1
    | none => rw [ep] at h1; exact c_shape2n K w hig n _ _ f e3 e4 e2 _ ar e1 h1
theorem left_x (n : Nat) (t : T) (h : t.wf cx gA gF) (g m : Int) (w : Wx) : RC (CW (n + 4)) 43 [.ob 10, .d t.enc, .d (.int g), .d (.int m)] (xst b w) (.d (.int (t.ll cx g m))) (xst b w) := by
  have s := shape_x K ok n t h w
  unfold T.ll
  cases e : t.shape cx with
  | none => rw [e] at s; exact c_left_none K b w n _ _ _ s
  | some p => rw [e] at s; exact c_left_some K b w n _ _ _ _ _ _ s
theorem shape_ok (n : Nat) (t : T) (h : t.wf cx gA gF) (out work : List D) (last : List Nat) (pf : Bool) : RC (CW (n + 3)) 41 [.ob 10, .d t.enc] (wst b out work last pf) (.d (shV (t.shape cx))) (wst b out work last pf) := shape_x K ok n t h (wxr b out work last pf)
theorem left_ok (n : Nat) (t : T) (h : t.wf cx gA gF) (g m : Int) (out work : List D) (last : List Nat) (pf : Bool) : RC (CW (n + 4)) 43 [.ob 10, .d t.enc, .d (.int g), .d (.int m)] (wst b out work last pf) (.d (.int (t.ll cx g m))) (wst b out work last pf) := left_x K ok n t h g m (wxr b out work last pf)
end Mn
end
section
namespace Mn
noncomputable def S1 (s : S3) : Prop := s.2.1 = [] ∨ ∃ l, s.2.1 = [l]
theorem par_rev (c : Bool) (L : List D) : (L ++ parE c).reverse = parE c ++ L.reverse := by
  rw [List.reverse_append]
  cases c <;> rfl
theorem pre_eq (t : List Nat) (b : Bs) (w : List D) (s : S3) : preS (tightN t) t (t.headD 0) (t.getLastD 0) b s.1 w s.2.1 s.2.2 = (s.oPre t).st b w := by
  unfold preS S3.oPre
  by_cases h : tightN t = true
  · rw [if_pos h, if_pos h]; rfl
  · rw [if_neg h, if_neg h]; rfl
theorem inf_eq (t : List Nat) (b : Bs) (w : List D) (s : S3) : infS (tightN t) t (t.headD 0) (t.getLastD 0) b s.1 w s.2.1 s.2.2 = (s.oInf false t).st b w := by
  unfold infS S3.oInf
  by_cases h : tightN t = true
  · rw [if_pos h, if_neg Bool.false_ne_true, if_pos h]; rfl
  · rw [if_neg h, if_neg Bool.false_ne_true, if_neg h]; rfl
theorem post_eq (t : List Nat) (b : Bs) (w : List D) (s : S3) : postS (tightN t) t (t.headD 0) (t.getLastD 0) b s.1 w s.2.1 s.2.2 = (s.oPost t).st b w := by
  unfold postS S3.oPost
  by_cases h : tightN t = true
  · rw [if_pos h, if_pos h]; rfl
  · rw [if_neg h, if_neg h]; rfl
theorem par_eq (c : Bool) (b : Bs) (w : List D) (s : S3) : parS c b s.1 w s.2.1 s.2.2 = (s.po c).st b w := by
  cases c <;> rfl
theorem at_eq (c : Bool) (t : List Nat) (b : Bs) (w : List D) (s : S3) : atS c t (t.headD 0) (t.getLastD 0) b s.1 w s.2.1 s.2.2 = (s.at c t).st b w := by
  cases c <;> rfl
noncomputable def RunS (CW NW : Nat → CallT) (n : Nat) (b : Bs) (s : S3) (w : List D) (s' : S3) (w' : List D) : Prop := Runs CW NW n b (s.1, w, s.2.1, s.2.2) (s'.1, w', s'.2.1, s'.2.2)
variable {CW NW : Nat → CallT} (K : Wk CW NW) {cx : Cx} {b : Bs} {gA gF : Nat → Prop} (ok : Ok cx b gA gF)
include K
theorem run_raw (n : Nat) {t : List Nat} (w : Wt t (t.headD 0) (t.getLastD 0)) (s : S3) (wk : List D) (h1 : s.1.length ≤ big) (h2 : wk.length + 1 ≤ big) : RunS CW NW (n + 1) b s (wk ++ [rowR t]) (s.raw t) wk :=
  runs_other h2 (.inr (.inr ⟨rfl, raw_ K n b s.1 wk s.2.1 s.2.2 w h1⟩))
theorem run_pc (n : Nat) (c : Bool) (s : S3) (wk : List D) (h1 : s.1.length ≤ big) (h2 : wk.length + 1 ≤ big) : RunS CW NW (n + 1) b s (wk ++ parE c) (s.pc c) wk := by
  cases c
  · show RunS CW NW (n + 1) b s (wk ++ []) s wk
    rw [List.append_nil]; exact Runs.refl _ _ _
  · exact run_raw K n (Wt.one 41) s wk h1 h2
include ok
theorem run_inf (n : Nat) (i : Nat) (h : gA i) (h8 : i ≠ 8) (s : S3) (hs : S1 s) (wk : List D) (h1 : s.1.length + 8 ≤ big) (h2 : wk.length + 1 ≤ big) : RunS CW NW (n + 6) b s (wk ++ [.tup [.str sInf, .int i, .int 0, .boo false]]) (s.oInf (i == 7) (cx.tx i)) wk := by
  obtain ⟨⟨t0, e1, e2, e3⟩, e4, e5⟩ := ok.tx i h
  by_cases h7 : i = 7
  · subst h7
    exact runs_other h2 (.inl ⟨rfl, c_infop7 K n b s.1 wk s.2.1 s.2.2 t0 e1 e3 (lin h1)⟩)
  · have e := c_infop K n b s.1 wk s.2.1 s.2.2 e4 i t0 e2 e1 e5 e3 hs h1 h7 h8
    rw [inf_eq] at e
    rw [show (i == 7) = false from beq_eq_false_iff_ne.mpr h7]
    exact runs_other h2 (.inl ⟨rfl, e⟩)
theorem run_post (n : Nat) (i : Nat) (h : gA i) (s : S3) (hs : S1 s) (wk : List D) (h1 : s.1.length + 8 ≤ big) (h2 : wk.length + 1 ≤ big) : RunS CW NW (n + 6) b s (wk ++ [.tup [.str sPost, .int i, .int 0, .boo false]]) (s.oPost (cx.tx i)) wk := by
  obtain ⟨⟨t0, e1, e2, e3⟩, e4, e5⟩ := ok.tx i h
  have e := c_postop K n b s.1 wk s.2.1 s.2.2 e4 i t0 e2 e1 e5 e3 hs h1
  rw [post_eq] at e
  exact runs_other h2 (.inr (.inl ⟨rfl, e⟩))
section
variable (n : Nat) (m : Int) (al : Bool) (s : S3) (hs : S1 s) (wk : List D) (ho : s.1.length + 10 ≤ big) (hw : wk.length + 8 ≤ big)
include hs ho hw
theorem wr_a (i : Nat) (h : gA i) : RC (CW (n + 8)) 36 [.ob 10, .d (tA i), .d (.int m), .d (.boo al)] (s.st b wk) (.d .non) ((s.at (!al && cx.op i) (cx.tx i)).st b wk) := by
  intro Q q
  obtain ⟨⟨t0, e1, e2, e3⟩, e4, e5⟩ := ok.tx i h
  refine w_atom K (n + 7) b s.1 wk s.2.1 s.2.2 al m i ?_
  refine c_watom K (n + 1) b s.1 wk s.2.1 s.2.2 e4 i t0 e2 e1 e5 e3 hs (lin ho) al (ok.pre i) (ok.inf i) (ok.post i) _ ?_
  rw [at_eq, Option.isSome_map, Option.isSome_map, Option.isSome_map]
  exact q
theorem wr_fn (f : Nat) (l : List D) (hf : gF f) (h9 : f ≠ 9 ∨ b.ig = true) (hl : l.length ≤ 2) (hS : RC (CW (n + 7)) 41 [.ob 10, .d (tS f l)] (s.st b wk) (.d .non) (s.st b wk)) :
    RC (CW (n + 8)) 36 [.ob 10, .d (tS f l), .d (.int m), .d (.boo al)] (s.st b wk) (.d .non) ((s.tk (cx.tx (cx.fn f))).st b (wk ++ (rowsF l).reverse)) := by
  intro Q q
  obtain ⟨⟨ar, k1⟩, k2, k3, k5⟩ := ok.fs f hf
  obtain ⟨⟨t0, e1, e2, e3⟩, e4, e5⟩ := ok.tx _ k5
  refine w_fn K (n + 6) b s.1 wk s.2.1 s.2.2 al m f l k3 h9 hS ?_
  exact c_wfun K (n + 1) b s.1 wk s.2.1 s.2.2 hs (lin ho) e4 _ t0 e2 e1 e5 e3 f k2 ar k1 l (lin (ad hw (ad hl hl))) _ q
theorem wr_pre (f : Nat) (x : T) (hf : gF f) (h9 : f ≠ 9) (h : Int) (k : Kd) (hS : RC (CW (n + 7)) 41 [.ob 10, .d (tS f [x.enc])] (s.st b wk) (.d (.tup [.str sPre, .int h, .str k.s])) (s.st b wk)) :
    RC (CW (n + 8)) 36 [.ob 10, .d (tS f [x.enc]), .d (.int m), .d (.boo al)] (s.st b wk) (.d .non) (((s.po (decide (m < h))).oPre (cx.tx (cx.fn f))).st b (wk ++ (parE (decide (m < h)) ++ [rowT x.enc (k.rb h) false]))) := by
  intro Q q
  obtain ⟨⟨ar, k1⟩, k2, k3, k5⟩ := ok.fs f hf
  obtain ⟨⟨t0, e1, e2, e3⟩, e4, e5⟩ := ok.tx _ k5
  refine w_op K (n + 6) b s.1 wk s.2.1 s.2.2 al m f _ k3 (.inl h9) _ hS ?_
  refine c_wop_pre K (n + 1) b s.1 wk s.2.1 s.2.2 hs (lin ho) (lin hw) f (cx.fn f) k2 ar k1 h m k x.enc (s.po (decide (m < h))).1 (s.po (decide (m < h))).2.1 (s.po (decide (m < h))).2.2 (par_eq _ b wk s) fun Q' hQ => ?_
  have h2 := len_po (s := s) (decide (m < h))
  have hs' : S1 (s.po (decide (m < h))) := by
    cases decide (m < h)
    · exact hs
    · exact .inr ⟨_, rfl⟩
  refine c_preop K n b _ wk _ _ e4 _ t0 e2 e1 e5 e3 hs' ?_ Q' ?_
  · exact lin (ad ho h2)
  · rw [pre_eq]
    rw [par_rev] at hQ
    exact hQ _ _ _ _ q
theorem wr_post (f : Nat) (x : T) (hx : x.wf cx gA gF) (hf : gF f) (h9 : f ≠ 9) (h : Int) (k : Kd) (hS : RC (CW (n + 7)) 41 [.ob 10, .d (tS f [x.enc])] (s.st b wk) (.d (.tup [.str sPost, .int h, .str k.s])) (s.st b wk)) :
    RC (CW (n + 8)) 36 [.ob 10, .d (tS f [x.enc]), .d (.int m), .d (.boo al)] (s.st b wk) (.d .non) ((s.po (decide (m < h))).st b (wk ++ (parE (decide (m < h)) ++ [.tup [.str sPost, .int (cx.fn f : Nat), .int 0, .boo false], rowT x.enc (x.ll cx h (k.lb h)) false]))) := by
  intro Q q
  obtain ⟨⟨ar, k1⟩, k2, k3, k5⟩ := ok.fs f hf
  refine w_op K (n + 6) b s.1 wk s.2.1 s.2.2 al m f _ k3 (.inl h9) _ hS ?_
  have e := c_wop_post K (n + 1) b s.1 wk s.2.1 s.2.2 hs (lin ho) (lin hw) f (cx.fn f) k2 ar k1 h m _ k x.enc (fun out last pf => left_ok K ok (n + 2) x hx h (k.lb h) out wk last pf)
  rw [par_rev] at e
  exact e _ (par_eq (decide (m < h)) b _ s ▸ q)
theorem wr_inf (f : Nat) (x y : T) (hx : x.wf cx gA gF) (hf : gF f) (h9 : f ≠ 9) (h : Int) (k : Kd) (hS : RC (CW (n + 7)) 41 [.ob 10, .d (tS f [x.enc, y.enc])] (s.st b wk) (.d (.tup [.str sInf, .int h, .str k.s])) (s.st b wk)) :
    RC (CW (n + 8)) 36 [.ob 10, .d (tS f [x.enc, y.enc]), .d (.int m), .d (.boo al)] (s.st b wk) (.d .non) ((s.po (decide (m < h))).st b (wk ++ (parE (decide (m < h)) ++ [rowT y.enc (k.rb h) false, .tup [.str sInf, .int (cx.fn f : Nat), .int 0, .boo false], rowT x.enc (x.ll cx h (k.lb h)) false]))) := by
  intro Q q
  obtain ⟨⟨ar, k1⟩, k2, k3, k5⟩ := ok.fs f hf
  refine w_op K (n + 6) b s.1 wk s.2.1 s.2.2 al m f _ k3 (.inl h9) _ hS ?_
  have e := c_wop_inf K (n + 1) b s.1 wk s.2.1 s.2.2 hs (lin ho) (lin hw) f (cx.fn f) k2 ar k1 h m _ k x.enc y.enc (fun out last pf => left_ok K ok (n + 2) x hx h (k.lb h) out wk last pf)
  rw [par_rev] at e
  exact e _ (par_eq (decide (m < h)) b _ s ▸ q)
end
end Mn
end
section
namespace Mn
theorem rn_f1 (cx : Cx) (f : Nat) (x : T) (al : Bool) (m : Int) (s : S3) {r : Option (Nat × Int × Kd)} (e : (T.f1 f x).shape cx = r) : rn cx (.f1 f x) false al m s = (match (generalizing := false) r with
      | some (0, h, k) => (rn cx x false false (k.rb h) (((s.po (decide (m < h))).oPre (cx.tx (cx.fn f))))).pc (decide (m < h))
      | some (_, h, k) => ((rn cx x false false (x.ll cx h (k.lb h)) (s.po (decide (m < h)))).oPost (cx.tx (cx.fn f))).pc (decide (m < h))
      | none => (rn cx x false true 999 ((s.tk (cx.tx (cx.fn f))).raw [40])).raw [41]) := by
  subst e; rfl
theorem rn_f2 (cx : Cx) (f : Nat) (x y : T) (al : Bool) (m : Int) (s : S3) {r : Option (Nat × Int × Kd)} (e : (T.f2 f x y).shape cx = r) : rn cx (.f2 f x y) false al m s = (match (generalizing := false) r with
      | some (_, h, k) => (rn cx y false false (k.rb h) ((rn cx x false false (x.ll cx h (k.lb h)) (s.po (decide (m < h)))).oInf (cx.fn f == 7) (cx.tx (cx.fn f)))).pc (decide (m < h))
      | none => (rn cx y false true 999 ((rn cx x false true 999 ((s.tk (cx.tx (cx.fn f))).raw [40])).raw [44])).raw [41]) := by
  subst e; rfl
theorem s1_po {s : S3} (c : Bool) (h : S1 s) : S1 (s.po c) := by
  cases c
  · exact h
  · exact .inr ⟨_, rfl⟩
theorem par_len (c : Bool) : (parE c).length ≤ 1 := by
  cases c
  · exact Nat.zero_le _
  · exact Nat.le_refl _
theorem ap3 {α : Type} (A : List α) (x y z : α) : A ++ [x, y, z] = A ++ [x] ++ [y] ++ [z] := by
  rw [← ap2 (A ++ [x]) y z, List.append_assoc]; rfl
theorem as2 {α : Type} (A : List α) (B : List α) (x y : α) : A ++ (B ++ [x, y]) = A ++ B ++ [x] ++ [y] := by
  rw [← List.append_assoc, ap2]
theorem as3 {α : Type} (A : List α) (B : List α) (x y z : α) : A ++ (B ++ [x, y, z]) = A ++ B ++ [x] ++ [y] ++ [z] := by
  rw [← List.append_assoc, ap3]
theorem as1 {α : Type} (A : List α) (B : List α) (x : α) : A ++ (B ++ [x]) = A ++ B ++ [x] := (List.append_assoc ..).symm
theorem sh1 (cx : Cx) (f : Nat) (x : T) {j : Nat} {q : Int × Kd} (e : (T.f1 f x).shape cx = some (j, q)) : j = 0 ∨ j = 2 := by
  replace e : (if cx.ig = true then none else (match cx.pre (cx.fn f) with | some p => if (cx.fn f == 3 && x.nn) = true then none else some (0, p) | none => (match cx.post (cx.fn f) with | some p => some (2, p) | none => none))) = some (j, q) := e
  by_cases c : cx.ig = true
  · rw [if_pos c] at e; exact (nomatch e)
  rw [if_neg c] at e
  cases e1 : cx.pre (cx.fn f) with
  | some p =>
    rw [e1] at e
    replace e : (if (cx.fn f == 3 && x.nn) = true then none else some (0, p)) = some (j, q) := e
    by_cases c : (cx.fn f == 3 && x.nn) = true
    · rw [if_pos c] at e; exact (nomatch e)
    · rw [if_neg c] at e; cases e; exact .inl rfl
  | none =>
    rw [e1] at e
    cases e2 : cx.post (cx.fn f) with
    | some p => rw [e2] at e; cases e; exact .inr rfl
    | none => rw [e2] at e; exact (nomatch e)
theorem sh2 (cx : Cx) (f : Nat) (x y : T) {j : Nat} {q : Int × Kd} (e : (T.f2 f x y).shape cx = some (j, q)) : j = 1 := by
  replace e : (if cx.ig = true then none else (match cx.inf (cx.fn f) with | some p => some (1, p) | none => none)) = some (j, q) := e
  by_cases c : cx.ig = true
  · rw [if_pos c] at e; exact (nomatch e)
  rw [if_neg c] at e
  cases e1 : cx.inf (cx.fn f) with
  | some p => rw [e1] at e; cases e; rfl
  | none => rw [e1] at e; exact (nomatch e)
theorem rowsT_len (t : T) : (rowsT t).length ≤ 3 * t.sz := by
  induction t with
  | dot x y _ ih => show (rowsT y).length + 1 + 1 ≤ 3 * (x.sz + y.sz + 1); exact lin ih
  | a i =>
    show (if isNil (.a i) = true then [rowR [93]] else [rowR [124], rowT (T.a i).enc 999 true, rowR [93]]).length ≤ 3 * 1
    by_cases h : isNil (.a i) = true
    · rw [if_pos h]; exact Nat.le_add_left _ _
    · rw [if_neg h]; exact Nat.le_refl _
  | vr k => exact Nat.le_refl 3
  | nu k => exact Nat.le_refl 3
  | f1 f x => show 3 ≤ 3 * (x.sz + 1); exact lin (Nat.le_refl 0)
  | f2 f x y => show 3 ≤ 3 * (x.sz + y.sz + 1); exact lin (Nat.le_refl 0)
  | cu x => show 3 ≤ 3 * (x.sz + 1); exact lin (Nat.le_refl 0)
variable {CW NW : Nat → CallT} (K : Wk CW NW) {cx : Cx} {b : Bs} {gA gF : Nat → Prop} (ok : Ok cx b gA gF)
noncomputable def RunT (CW NW : Nat → CallT) (cx : Cx) (b : Bs) (n : Nat) (t : T) : Prop := ∀ m al s wk, S1 s → s.1.length + 8 * t.sz + 10 ≤ big → wk.length + 8 * t.sz + 8 ≤ big → RunS CW NW (n + 8) b s (wk ++ [rowT t.enc m al]) (rn cx t false al m s) wk
noncomputable def RunL (CW NW : Nat → CallT) (cx : Cx) (b : Bs) (n : Nat) (t : T) : Prop := ∀ s wk, S1 s → s.1.length + 8 * t.sz + 12 ≤ big → wk.length + 8 * t.sz + 10 ≤ big → RunS CW NW (n + 8) b s (wk ++ (rowsT t).reverse) (rn cx t true true 999 s) wk
include K ok
theorem run_fn1 (n : Nat) (f : Nat) (x : T) (hf : gF f) (h9 : f ≠ 9 ∨ b.ig = true) (hx : x.wf cx gA gF) (ih : RunT CW NW cx b n x) (m : Int) (al : Bool) (s : S3) (wk : List D) (hs : S1 s) (ho : s.1.length + 8 * (x.sz + 1) + 10 ≤ big) (hw : wk.length + 8 * (x.sz + 1) + 8 ≤ big)
    (hS : RC (CW (n + 7)) 41 [.ob 10, .d (tS f [x.enc])] (s.st b wk) (.d .non) (s.st b wk)) : RunS CW NW (n + 8) b s (wk ++ [rowT (tS f [x.enc]) m al]) ((rn cx x false true 999 ((s.tk (cx.tx (cx.fn f))).raw [40])).raw [41]) wk := by
  have w := wr_fn K ok n m al s hs wk (lin ho) (lin hw) f [x.enc] hf h9 (Nat.le_succ 1) hS
  refine Runs.trans (runs_term (lin hw) w) ?_
  have l1 := len_tk (s := s) (cx.tx (cx.fn f))
  show RunS CW NW (n + 8) b (s.tk (cx.tx (cx.fn f))) (wk ++ [rowR [41], rowT x.enc 999 true, rowR [40]]) _ wk
  rw [ap3]
  have b1 := len_raw (s := s.tk (cx.tx (cx.fn f))) [40]
  refine Runs.trans (run_raw K (n + 7) (Wt.one 40) _ _ (lin (ad ho l1)) (by rw [ap1, ap1]; exact lin hw)) ?_
  refine Runs.trans (ih 999 true _ _ (.inr ⟨_, rfl⟩) (lin (ad ho (ad l1 (lq b1)))) (by rw [ap1]; exact lin hw)) ?_
  have b2 := (rn_ad ok x hx false true 999 ((s.tk (cx.tx (cx.fn f))).raw [40])).len
  exact run_raw K (n + 7) (Wt.one 41) _ _ (lin (ad ho (ad l1 (ad (lq b1) b2)))) (lin hw)
theorem run_f1 (n : Nat) (f : Nat) (x : T) (h : (T.f1 f x).wf cx gA gF) (ih : RunT CW NW cx b n x) : RunT CW NW cx b n (.f1 f x) := by
  intro m al s wk hs ho hw
  replace ho : s.1.length + 8 * (x.sz + 1) + 10 ≤ big := ho
  replace hw : wk.length + 8 * (x.sz + 1) + 8 ≤ big := hw
  have hS := shape_ok K ok (n + 4) (.f1 f x) h s.1 wk s.2.1 s.2.2
  have k5 := (ok.fs f h.1.1).2.2.2
  cases e : (T.f1 f x).shape cx with
  | none =>
    rw [e] at hS
    rw [rn_f1 cx f x al m s e]
    exact run_fn1 K ok n f x h.1.1 (.inl h.1.2) h.2 ih m al s wk hs ho hw hS
  | some p =>
    obtain ⟨j, g, k⟩ := p
    rw [e] at hS
    rw [rn_f1 cx f x al m s e]
    have hpo := len_po (s := s) (decide (m < g))
    have hpl := par_len (decide (m < g))
    rcases sh1 cx f x e with rfl | rfl
    · have w := wr_pre K ok n m al s hs wk (lin ho) (lin hw) f x h.1.1 h.1.2 g k hS
      refine Runs.trans (runs_term (lin hw) w) ?_
      have b1 := (up_pre (cx.tx (cx.fn f)) (s.po (decide (m < g)))).1
      show RunS CW NW (n + 8) b _ (wk ++ (parE (decide (m < g)) ++ [_])) _ wk
      rw [as1]
      refine Runs.trans (ih (k.rb g) false _ _ (.inr (up_pre _ _).2) (lin (ad ho (ad hpo b1))) (by rw [List.length_append]; exact lin (ad hw hpl))) ?_
      have b2 := (rn_ad ok x h.2 false false (k.rb g) ((s.po (decide (m < g))).oPre (cx.tx (cx.fn f)))).len
      exact run_pc K (n + 7) _ _ wk (lin (ad ho (ad hpo (ad b1 b2)))) (lin hw)
    · have w := wr_post K ok n m al s hs wk (lin ho) (lin hw) f x h.2 h.1.1 h.1.2 g k hS
      refine Runs.trans (runs_term (lin hw) w) ?_
      show RunS CW NW (n + 8) b _ (wk ++ (parE (decide (m < g)) ++ [_, _])) _ wk
      rw [as2]
      refine Runs.trans (ih (x.ll cx g (k.lb g)) false _ _ (s1_po _ hs) (lin (ad ho hpo)) (by rw [ap1, List.length_append]; exact lin (ad hw hpl))) ?_
      have a2 := rn_ad ok x h.2 false false (x.ll cx g (k.lb g)) (s.po (decide (m < g)))
      have b2 := a2.len
      refine Runs.trans (run_post K ok (n + 2) _ k5 _ (.inr a2.l) _ (lin (ad ho (ad hpo b2))) (by rw [List.length_append]; exact lin (ad hw hpl))) ?_
      have b3 := (up_post (cx.tx (cx.fn f)) (rn cx x false false (x.ll cx g (k.lb g)) (s.po (decide (m < g))))).1
      exact run_pc K (n + 7) _ _ wk (lin (ad ho (ad hpo (ad b2 b3)))) (lin hw)
theorem run_f2 (n : Nat) (f : Nat) (x y : T) (h : (T.f2 f x y).wf cx gA gF) (ihx : RunT CW NW cx b n x) (ihy : RunT CW NW cx b n y) : RunT CW NW cx b n (.f2 f x y) := by
  intro m al s wk hs ho hw
  replace ho : s.1.length + 8 * (x.sz + y.sz + 1) + 10 ≤ big := ho
  replace hw : wk.length + 8 * (x.sz + y.sz + 1) + 8 ≤ big := hw
  have hS := shape_ok K ok (n + 4) (.f2 f x y) h s.1 wk s.2.1 s.2.2
  have k5 := (ok.fs f h.1.1).2.2.2
  cases e : (T.f2 f x y).shape cx with
  | none =>
    rw [e] at hS
    rw [rn_f2 cx f x y al m s e]
    have w := wr_fn K ok n m al s hs wk (lin ho) (lin hw) f [x.enc, y.enc] h.1.1 (.inl h.1.2) (Nat.le_refl 2) hS
    refine Runs.trans (runs_term (lin hw) w) ?_
    have l1 := len_tk (s := s) (cx.tx (cx.fn f))
    show RunS CW NW (n + 8) b (s.tk (cx.tx (cx.fn f))) (wk ++ [rowR [41], rowT y.enc 999 true, rowR [44], rowT x.enc 999 true, rowR [40]]) _ wk
    rw [show wk ++ [rowR [41], rowT y.enc 999 true, rowR [44], rowT x.enc 999 true, rowR [40]] = wk ++ [rowR [41]] ++ [rowT y.enc 999 true] ++ [rowR [44]] ++ [rowT x.enc 999 true] ++ [rowR [40]] by rw [← ap3 (wk ++ [rowR [41]] ++ [rowT y.enc 999 true]), ← ap2 wk, List.append_assoc]; rfl]
    have b1 := len_raw (s := s.tk (cx.tx (cx.fn f))) [40]
    refine Runs.trans (run_raw K (n + 7) (Wt.one 40) _ _ (lin (ad ho l1)) (by rw [ap1, ap1, ap1, ap1]; exact lin hw)) ?_
    refine Runs.trans (ihx 999 true _ _ (.inr ⟨_, rfl⟩) (lin (ad ho (ad l1 (lq b1)))) (by rw [ap1, ap1, ap1]; exact lin hw)) ?_
    have b2 := (rn_ad ok x h.2.2.1 false true 999 ((s.tk (cx.tx (cx.fn f))).raw [40])).len
    refine Runs.trans (run_raw K (n + 7) (Wt.one 44) _ _ (lin (ad ho (ad l1 (ad (lq b1) b2)))) (by rw [ap1, ap1]; exact lin hw)) ?_
    have b4 := len_raw (s := rn cx x false true 999 ((s.tk (cx.tx (cx.fn f))).raw [40])) [44]
    refine Runs.trans (ihy 999 true _ _ (.inr ⟨_, rfl⟩) (lin (ad ho (ad l1 (ad (lq b1) (ad b2 (lq b4)))))) (by rw [ap1]; exact lin hw)) ?_
    have b3 := (rn_ad ok y h.2.2.2 false true 999 ((rn cx x false true 999 ((s.tk (cx.tx (cx.fn f))).raw [40])).raw [44])).len
    exact run_raw K (n + 7) (Wt.one 41) _ _ (lin (ad ho (ad l1 (ad (lq b1) (ad b2 (ad (lq b4) b3)))))) (lin hw)
  | some p =>
    obtain ⟨j, g, k⟩ := p
    rw [e] at hS
    rw [rn_f2 cx f x y al m s e]
    have hpo := len_po (s := s) (decide (m < g))
    have hpl := par_len (decide (m < g))
    have ej := sh2 cx f x y e
    subst ej
    have w := wr_inf K ok n m al s hs wk (lin ho) (lin hw) f x y h.2.2.1 h.1.1 h.1.2 g k hS
    refine Runs.trans (runs_term (lin hw) w) ?_
    show RunS CW NW (n + 8) b _ (wk ++ (parE (decide (m < g)) ++ [_, _, _])) _ wk
    rw [as3]
    refine Runs.trans (ihx (x.ll cx g (k.lb g)) false _ _ (s1_po _ hs) (lin (ad ho hpo)) (by rw [ap1, ap1, List.length_append]; exact lin (ad hw hpl))) ?_
    have a2 := rn_ad ok x h.2.2.1 false false (x.ll cx g (k.lb g)) (s.po (decide (m < g)))
    have b2 := a2.len
    refine Runs.trans (run_inf K ok (n + 2) _ k5 h.2.1 _ (.inr a2.l) _ (lin (ad ho (ad hpo b2))) (by rw [ap1, List.length_append]; exact lin (ad hw hpl))) ?_
    have b3 := (up_inf (cx.fn f == 7) (cx.tx (cx.fn f)) (rn cx x false false (x.ll cx g (k.lb g)) (s.po (decide (m < g))))).1
    refine Runs.trans (ihy (k.rb g) false _ _ (.inr (up_inf _ _ _).2) (lin (ad ho (ad hpo (ad b2 b3)))) (by rw [List.length_append]; exact lin (ad hw hpl))) ?_
    have b4 := (rn_ad ok y h.2.2.2 false false (k.rb g) ((rn cx x false false (x.ll cx g (k.lb g)) (s.po (decide (m < g)))).oInf (cx.fn f == 7) (cx.tx (cx.fn f)))).len
    exact run_pc K (n + 7) _ _ wk (lin (ad ho (ad hpo (ad b2 (ad b3 b4))))) (lin hw)
theorem run_a (n : Nat) (i : Nat) (h : gA i) : RunT CW NW cx b n (.a i) := by
  intro m al s wk hs ho hw
  replace ho : s.1.length + 8 * 1 + 10 ≤ big := ho
  replace hw : wk.length + 8 * 1 + 8 ≤ big := hw
  have e : rn cx (.a i) false al m s = s.at (!al && cx.op i) (cx.tx i) := by cases al <;> rfl
  rw [e]
  exact runs_term (lin hw) (wr_a K ok n m al s hs wk (lin ho) (lin hw) i h)
theorem run_cu (n : Nat) (x : T) (h : gF 9 ∧ x.wf cx gA gF) (ih : RunT CW NW cx b n x) : RunT CW NW cx b n (.cu x) := by
  intro m al s wk hs ho hw
  replace ho : s.1.length + 8 * (x.sz + 1) + 10 ≤ big := ho
  replace hw : wk.length + 8 * (x.sz + 1) + 8 ≤ big := hw
  show RunS CW NW (n + 8) b s (wk ++ [rowT (tS 9 [x.enc]) m al]) (if cx.ig = true then (rn cx x false true 999 ((s.tk (cx.tx (cx.fn 9))).raw [40])).raw [41] else (rn cx x false true 1201 (s.tk [123])).raw [125]) wk
  by_cases hc : cx.ig = true
  · rw [if_pos hc]
    exact run_fn1 K ok n 9 x h.1 (.inr (ok.ig.trans hc)) h.2 ih m al s wk hs ho hw (c_shape_ig K b (wxr b s.1 wk s.2.1 s.2.2) (ok.ig.trans hc) (n + 5) _)
  · rw [if_neg hc]
    refine Runs.trans (runs_term (lin hw) (w_curly K (n + 2) b s.1 wk s.2.1 s.2.2 al m x.enc (ok.ig.trans (eq_false_of_ne_true hc)) hs (lin ho) (lin hw))) ?_
    show RunS CW NW (n + 8) b (s.tk [123]) (wk ++ [rowR [125], rowT x.enc 1201 true]) ((rn cx x false true 1201 (s.tk [123])).raw [125]) wk
    rw [ap2]
    have l1 := len_tk (s := s) [123]
    refine Runs.trans (ih 1201 true _ _ (.inr ⟨_, rfl⟩) (lin (ad ho l1)) (by rw [ap1]; exact lin hw)) ?_
    have b2 := (rn_ad ok x h.2 false true 1201 (s.tk [123])).len
    exact run_raw K (n + 7) (Wt.one 125) _ _ (lin (ad ho (ad l1 b2))) (lin hw)
theorem run_dot (n : Nat) (x y : T) (h : (T.dot x y).wf cx gA gF) (ih : RunT CW NW cx b n x) (ihy : RunL CW NW cx b n y) : RunT CW NW cx b n (.dot x y) := by
  intro m al s wk hs ho hw
  replace ho : s.1.length + 8 * (x.sz + y.sz + 1) + 10 ≤ big := ho
  replace hw : wk.length + 8 * (x.sz + y.sz + 1) + 8 ≤ big := hw
  obtain ⟨tg, k, l, e1, e2, e3⟩ := end_form cx b gA gF ok y h.2
  have hsz := its_sz y
  have L := c_wlist K (n + 1) b s.1 wk s.2.1 s.2.2 hs (lin ho) tg k l e2 (x.enc :: y.its) (by show _ + 2 * (y.its.length + 1) + 4 ≤ _; exact lin (ad hw (ad hsz hsz)))
  rw [← e1, e3, rows_dot] at L
  have w : RC (CW (n + 8)) 36 [.ob 10, .d (T.dot x y).enc, .d (.int m), .d (.boo al)] (s.st b wk) (.d .non) (wst b (s.1 ++ sp s.2.1 s.2.2 91 ++ [.str [91]]) (wk ++ (rowT x.enc 999 true :: rowsT y).reverse) [91] false) := by
    intro Q q
    refine w_list K (n + 7) b s.1 wk s.2.1 s.2.2 al m [x.enc, y.enc] ?_
    rw [show tS 0 [x.enc, y.enc] = encL y.end_.enc (x.enc :: y.its) by show _ = tS 0 [x.enc, encL y.end_.enc y.its]; rw [enc_its]]
    exact L _ q
  refine Runs.trans (runs_term (lin hw) w) ?_
  show RunS CW NW (n + 8) b (s.tk [91]) (wk ++ (rowT x.enc 999 true :: rowsT y).reverse) (rn cx y true true 999 (rn cx x false true 999 (s.tk [91]))) wk
  have l1 := len_tk (s := s) [91]
  have l2 := rowsT_len y
  rw [List.reverse_cons, ← List.append_assoc]
  refine Runs.trans (ih 999 true _ _ (.inr ⟨_, rfl⟩) (lin (ad ho l1)) (by rw [List.length_append, List.length_reverse]; exact lin (ad hw l2))) ?_
  have a2 := rn_ad ok x h.1 false true 999 (s.tk [91])
  have b2 := a2.len
  exact ihy _ _ (.inr a2.l) (lin (ad ho (ad l1 b2))) (lin hw)
theorem tail3 (n : Nat) (t : T) (h : t.wf cx gA gF) (h1 : rowsT t = [rowR [124], rowT t.enc 999 true, rowR [93]]) (h2 : ∀ s, rn cx t true true 999 s = (rn cx t false true 999 (s.raw [124])).raw [93]) (ih : RunT CW NW cx b n t) : RunL CW NW cx b n t := by
  intro s wk hs ho hw
  rw [h1, h2]
  show RunS CW NW (n + 8) b s (wk ++ [rowR [93], rowT t.enc 999 true, rowR [124]]) _ wk
  rw [ap3]
  have l1 := len_raw (s := s) [124]
  refine Runs.trans (run_raw K (n + 7) (Wt.one 124) _ _ (lin ho) (by rw [ap1, ap1]; exact lin hw)) ?_
  refine Runs.trans (ih 999 true _ _ (.inr ⟨_, rfl⟩) (lin (ad ho (lq l1))) (by rw [ap1]; exact lin hw)) ?_
  have b2 := (rn_ad ok t h false true 999 (s.raw [124])).len
  exact run_raw K (n + 7) (Wt.one 93) _ _ (lin (ad ho (ad (lq l1) b2))) (lin hw)
theorem run_all (n : Nat) (t : T) : t.wf cx gA gF → RunT CW NW cx b n t ∧ RunL CW NW cx b n t := by
  induction t with
  | a i =>
    intro h
    refine ⟨run_a K ok n i h, ?_⟩
    cases i with
    | zero =>
      intro s wk hs ho hw
      exact run_raw K (n + 7) (Wt.one 93) s wk (lin ho) (lin hw)
    | succ i => exact tail3 K ok n (.a (i + 1)) h rfl (fun s => rfl) (run_a K ok n _ h)
  | vr k =>
    intro h
    have r : RunT CW NW cx b n (.vr k) := fun m al s wk hs ho hw => by
      replace ho : s.1.length + 8 * 1 + 10 ≤ big := ho
      replace hw : wk.length + 8 * 1 + 8 ≤ big := hw
      exact runs_term (lin hw) (w_var K (n + 2) b s.1 wk s.2.1 s.2.2 al m k h.1 h.2 hs (lin ho))
    exact ⟨r, tail3 K ok n _ h rfl (fun _ => rfl) r⟩
  | nu v =>
    intro h
    have r : RunT CW NW cx b n (.nu v) := fun m al s wk hs ho hw => by
      replace ho : s.1.length + 8 * 1 + 10 ≤ big := ho
      replace hw : wk.length + 8 * 1 + 8 ≤ big := hw
      exact runs_term (lin hw) (w_int K (n + 2) b s.1 wk s.2.1 s.2.2 al m v h.1 h.2.1 (wt_num h) hs (lin ho))
    exact ⟨r, tail3 K ok n _ h rfl (fun _ => rfl) r⟩
  | f1 f x ih =>
    intro h
    have r := run_f1 K ok n f x h (ih h.2).1
    exact ⟨r, tail3 K ok n _ h rfl (fun _ => rfl) r⟩
  | f2 f x y ihx ihy =>
    intro h
    have r := run_f2 K ok n f x y h (ihx h.2.2.1).1 (ihy h.2.2.2).1
    exact ⟨r, tail3 K ok n _ h rfl (fun _ => rfl) r⟩
  | cu x ih =>
    intro h
    have r := run_cu K ok n x h (ih h.2).1
    exact ⟨r, tail3 K ok n _ h rfl (fun _ => rfl) r⟩
  | dot x y ihx ihy =>
    intro h
    refine ⟨run_dot K ok n x y h (ihx h.1).1 (ihy h.2).2, ?_⟩
    intro s wk hs ho hw
    replace ho : s.1.length + 8 * (x.sz + y.sz + 1) + 12 ≤ big := ho
    replace hw : wk.length + 8 * (x.sz + y.sz + 1) + 10 ≤ big := hw
    show RunS CW NW (n + 8) b s (wk ++ (rowR [44] :: rowT x.enc 999 true :: rowsT y).reverse) (rn cx y true true 999 (rn cx x false true 999 (s.raw [44]))) wk
    have l1 := len_raw (s := s) [44]
    have l2 := rowsT_len y
    rw [List.reverse_cons, List.reverse_cons, ← List.append_assoc, ← List.append_assoc]
    refine Runs.trans (run_raw K (n + 7) (Wt.one 44) _ _ (lin ho) (by rw [ap1, List.length_append, List.length_reverse]; exact lin (ad hw l2))) ?_
    refine Runs.trans ((ihx h.1).1 999 true _ _ (.inr ⟨_, rfl⟩) (lin (ad ho (lq l1))) (by rw [List.length_append, List.length_reverse]; exact lin (ad hw l2))) ?_
    have a2 := rn_ad ok x h.1 false true 999 (s.raw [44])
    have b2 := a2.len
    exact (ihy h.2).2 _ _ (.inr a2.l) (lin (ad ho (ad (lq l1) b2))) (lin hw)
end Mn
end
section
namespace Mn
noncomputable def ist (b : Bs) (last : List Nat) (pf : Bool) : List AO :=
  bst b [.ins 2 [(4, .ob 1), (8, .ob 6), (9, .d (.boo b.qt)), (10, .d (.boo b.ig)), (11, .d (.boo false)), (12, .ob 11), (13, .ob 12), (14, .ob 13), (15, .d (.str last)), (16, .d (.boo pf)), (17, .ob 14)],
    .d0, .d0, .lst b.oo, .lst b.ow]
noncomputable def flat : List D → List Nat
  | [] => []
  | .str s :: r => s ++ flat r
  | _ :: r => flat r
theorem flat_map (ss : List (List Nat)) : flat (ss.map .str) = ss.flatten := by
  induction ss with
  | nil => rfl
  | cons x r ih => show x ++ flat (r.map .str) = _; rw [ih]; rfl
theorem sum_le (ss : List (List Nat)) (h : ∀ x ∈ ss, x.length ≤ 1000) : (ss.map (·.length)).sum ≤ 1000 * ss.length := by
  induction ss with
  | nil => exact Nat.le_refl _
  | cons x r ih =>
    have h1 := ih fun y hy => h y (List.mem_cons_of_mem _ hy)
    have h2 := h x List.mem_cons_self
    rw [List.map_cons, List.sum_cons, List.length_cons]
    exact lin (ad h1 h2)
variable {CW NW : Nat → CallT} (K : Wk CW NW) {cx : Cx} {b : Bs} {gA gF : Nat → Prop} (ok : Ok cx b gA gF)
include K ok
theorem text_ws (n : Nat) (t : T) (h : t.wf cx gA gF) (hz : t.sz ≤ 2000) (m : Int) (last : List Nat) (pf : Bool) {Q : AV → List AO → Prop} (q : Q (.d (.str (flat (rn cx t false (decide (1201 ≤ m)) m ([], [], false)).1))) ((rn cx t false (decide (1201 ≤ m)) m ([], [], false)).st b [])) :
    wpSs P0 (CW (n + 8)) (NW (n + 8)) ir31 (argVars fi31 [.ob 10, .d t.enc, .d (.int m)]) (ist b last pf) (retQ Q) := by
  refine ex3 10 2 _ ⟨rfl, rfl, by exact Nat.le_of_ble_eq_true rfl, ?_⟩
  refine ex3 10 2 _ ⟨rfl, rfl, by exact Nat.le_of_ble_eq_true rfl, ?_⟩
  refine ex3 10 2 _ ⟨rfl, rfl, by exact Nat.le_of_ble_eq_true rfl, ?_⟩
  refine exC (.d (.ge _ _)) ?_
  refine an bg4 (an bg1 ?_)
  refine ex3 10 2 _ ⟨rfl, rfl, by exact Nat.le_of_ble_eq_true rfl, ?_⟩
  have hb := big_eq
  have R := (run_all K ok n t h).1 m (decide (1201 ≤ m)) ([], [], false) [] (.inl rfl) (by show 0 + 8 * t.sz + 10 ≤ big; omega) (by show 0 + 8 * t.sz + 8 ≤ big; omega)
  obtain ⟨ss, e, hs, hk⟩ := (rn_ad ok t h false (decide (1201 ≤ m)) m ([], [], false)).o
  generalize rn cx t false (decide (1201 ≤ m)) m ([], [], false) = z at R e q ⊢
  replace e : z.1 = ss.map .str := e
  have hsum := sum_le ss hs
  have W := R (.d t.enc) (.d (.int m)) (fun fl vs st => match fl with | .nx => wpSs P0 (CW (n + 8)) (NW (n + 8)) (dropB 5 ir31) vs st (retQ Q) | .bk => retQ Q .bk vs st | .ct => retQ Q .ct vs st | .rt v => retQ Q (.rt v) vs st)
    (fun k3 k4 k5 k6 => lw_end (n + 8) (.d t.enc) (.d (.int m)) k3 k4 k5 k6 b z.1 z.2.1 z.2.2 (by
      rw [e, flat_map, ← join_nil] at q
      unfold S3.st at q
      rw [e] at q ⊢
      refine an (.str rfl) (exM (.join (ss := ss) (codes "") rfl ?_) ?_)
      · rw [codes1.2.2.2.2]
        show _ + ss.length * 0 ≤ _
        omega
      · rw [codes1.2.2.2.2]
        exact q)) none none none none
  rw [rT] at W
  exact W
theorem c_text (n : Nat) (t : T) (h : t.wf cx gA gF) (hz : t.sz ≤ 2000) (m : Int) (last : List Nat) (pf : Bool) :
    RC (CW (n + 9)) 31 [.ob 10, .d t.enc, .d (.int m)] (ist b last pf) (.d (.str (flat (rn cx t false (decide (1201 ≤ m)) m ([], [], false)).1))) ((rn cx t false (decide (1201 ≤ m)) m ([], [], false)).st b []) := fun Q q =>
  K.c (fi := fi31) (ir := ir31) rfl rfl rfl (text_ws K ok n t h hz m last pf q)
end Mn
end
section
namespace Mn
structure Fr where
  l : List Nat
  N : Nat
  B0 : List AO
noncomputable def Fr.e (F : Fr) (i : Nat) : Nat := match F.l[i]? with
  | some a => a
  | none => i - F.l.length + F.N
structure Fr.Ok (F : Fr) : Prop where
  nd : F.l.Nodup
  lt : ∀ a ∈ F.l, a < F.N
noncomputable def mA (e : Nat → Nat) : AV → AV
  | .ob n => .ob (e n)
  | .d d => .d d
  | .own l => .own l
noncomputable def mF (e : Nat → Nat) : List (Nat × AV) → List (Nat × AV)
  | [] => []
  | (f, v) :: r => (f, mA e v) :: mF e r
noncomputable def mO (e : Nat → Nat) : AO → AO
  | .ins c fs => .ins c (mF e fs)
  | o => o
noncomputable def mV (e : Nat → Nat) (vs : Vars) : Vars := vs.map (Option.map (mA e))
structure Em (F : Fr) (st B : List AO) : Prop where
  ln : F.l.length ≤ st.length ∧ B.length + F.l.length = F.N + st.length
  get : ∀ i o, st[i]? = some o → B[F.e i]? = some (mO F.e o)
  fr : ∀ j, j < F.N → j ∉ F.l → B[j]? = F.B0[j]?
section
variable {F : Fr} (hF : F.Ok)
theorem e_in {i : Nat} (h : i < F.l.length) : F.e i ∈ F.l ∧ F.l[i]? = some (F.e i) := by
  have e : F.l[i]? = some F.l[i] := List.getElem?_eq_getElem h
  unfold Fr.e
  rw [e]
  exact ⟨List.getElem_mem h, rfl⟩
theorem e_out {i : Nat} (h : F.l.length ≤ i) : F.e i = i - F.l.length + F.N := by
  unfold Fr.e
  rw [List.getElem?_eq_none h]
include hF
theorem e_inj {i j : Nat} (h : F.e i = F.e j) : i = j := by
  rcases Nat.lt_or_ge i F.l.length with hi | hi <;> rcases Nat.lt_or_ge j F.l.length with hj | hj
  · exact ((List.getElem?_inj hi hF.nd).mp (((e_in hi).2.trans (by rw [h])).trans (e_in hj).2.symm))
  · have a := hF.lt _ (e_in hi).1
    rw [h, e_out hj] at a
    omega
  · have a := hF.lt _ (e_in hj).1
    rw [← h, e_out hi] at a
    omega
  · rw [e_out hi, e_out hj] at h; omega
omit hF
variable {st B : List AO} (E : Em F st B)
include E
theorem Em.e : F.e st.length = B.length := by
  rw [e_out E.ln.1]; have := E.ln; omega
include hF
theorem Em.set {i : Nat} {o : AO} (h : st[i]? = some o) (o' : AO) : Em F (st.set i o') (B.set (F.e i) (mO F.e o')) := by
  have hi := (List.getElem?_eq_some_iff.mp h).1
  have hB := (List.getElem?_eq_some_iff.mp (E.get i o h)).1
  refine ⟨by rw [List.length_set, List.length_set]; exact E.ln, fun j p hj => ?_, fun j hj hn => ?_⟩
  · by_cases c : i = j
    · subst c
      rw [List.getElem?_set_self hi] at hj
      cases hj
      exact List.getElem?_set_self hB
    · rw [List.getElem?_set_ne c] at hj
      rw [List.getElem?_set_ne (fun d => c (e_inj hF d))]
      exact E.get j p hj
  · rw [List.getElem?_set_ne (fun d => ?_)]
    · exact E.fr j hj hn
    · rcases Nat.lt_or_ge i F.l.length with c | c
      · exact hn (d ▸ (e_in c).1)
      · rw [e_out c] at d; omega
omit hF
theorem Em.app (o : AO) : Em F (st ++ [o]) (B ++ [mO F.e o]) := by
  have := E.ln
  refine ⟨by rw [ap1, ap1]; omega, fun j p hj => ?_, fun j hj hn => ?_⟩
  · rcases Nat.lt_or_ge j st.length with c | c
    · rw [List.getElem?_append_left c] at hj
      have := E.get j p hj
      rw [List.getElem?_append_left (List.getElem?_eq_some_iff.mp this).1]
      exact this
    · rw [List.getElem?_append_right c] at hj
      have c0 : j - st.length = 0 := by
        rcases Nat.eq_zero_or_pos (j - st.length) with d | d
        · exact d
        · rw [List.getElem?_eq_none (by exact d)] at hj; cases hj
      have c1 : j = st.length := by omega
      subst c1
      rw [Nat.sub_self] at hj
      cases hj
      rw [E.e, List.getElem?_append_right (Nat.le_refl _), Nat.sub_self]
      rfl
  · rw [List.getElem?_append_left (lin (ad this.1 (ad (lq this.2.symm) hj)))]
    exact E.fr j hj hn
end
section
variable {F : Fr} {st B : List AO}
theorem ge_l (E : Em F st B) {n : Nat} {l : List D} (h : st[n]? = some (.lst l)) : B[F.e n]? = some (.lst l) := E.get n _ h
theorem dg_m {o : AO} {k : D} {r : Option D} (e : Nat → Nat) (h : DG o k r) : DG (mO e o) k r := by
  cases h <;> constructor
theorem ds_m {o o' : AO} {k v : D} (e : Nat → Nat) (h : DS o k v o') : DS (mO e o) k v (mO e o') := by
  cases h <;> constructor <;> assumption
variable (E : Em F st B)
include E
theorem tr_m {v : AV} {b : Bool} (h : TrR st v b) : TrR B (mA F.e v) b := by
  cases h with
  | ob o h => exact .ob (ge_l E o) h
  | non => exact .non
  | boo b => exact .boo b
  | int i => exact .int i
  | str h => exact .str h
  | tup h => exact .tup h
  | lst h => exact .lst h
  | own h => exact .own h
theorem trW_m {v : AV} {J J' : Bool → Prop} (k : ∀ b, J b → J' b) (h : trW st v J) : trW B (mA F.e v) J' := by
  cases v with
  | ob n => obtain ⟨b, x, y⟩ := h; exact ⟨b, tr_m E x, k b y⟩
  | own l => obtain ⟨b, x, y⟩ := h; exact ⟨b, tr_m E x, k b y⟩
  | d d =>
    cases d with
    | boo b => exact k b h
    | _ => obtain ⟨b, x, y⟩ := h; exact ⟨b, tr_m E x, k b y⟩
theorem fin_m {c : Bool} {v : AV} {Q Q' : AV → List AO → Prop} (q : ∀ v st B, Em F st B → Q v st → Q' (mA F.e v) B) (h : finX c Q v st) : finX c Q' (mA F.e v) B := by
  cases c with
  | true => exact trW_m E (fun b x => q (.d (.boo b)) _ _ E x) h
  | false => exact q _ _ _ E h
theorem ca_m {op : CmpOp} {x y : AV} {b : Bool} (h : CA st op x y b) : CA B op (mA F.e x) (mA F.e y) b := by
  cases h with
  | d h => exact .d h
  | inD h g => exact .inD (E.get _ _ h) (dg_m _ g)
  | is_ n => exact .is_ _
  | isN n => exact .isN _
theorem idx_m {x y r : AV} (h : IdxR st x y r) : IdxR B (mA F.e x) (mA F.e y) (mA F.e r) := by
  cases h with
  | tup h => exact .tup h
  | lst h => exact .lst h
  | ob o h => exact .ob (ge_l E o) h
  | str h g => exact .str h g
theorem bi_m {f : BI} {l : List AV} {r : AV} (h : BiR st f l r) : BiR B f (l.map (mA F.e)) (mA F.e r) := by
  cases h with
  | lenO o h => exact .lenO (ge_l E o) h
  | int n => exact .int n
  | lenS h => exact .lenS h
  | lenL h => exact .lenL h
  | lenT h => exact .lenT h
  | chr h => exact .chr h
  | ord c => exact .ord c
  | str h => exact .str h
  | abs n => exact .abs n
  | min x y => exact .min x y
  | tuple h => exact .tuple h
theorem mbT_m {m : MB} {x : AV} (h : MbT st m x) : MbT B m (mA F.e x) := by
  cases h with
  | lst o h => exact .lst (ge_l E o) h
  | get h g => exact .get (E.get _ _ h) (dg_m _ g)
  | str h => exact .str h
theorem mb_m (hF : F.Ok) {m : MB} {x r : AV} {l : List AV} {st' : List AO} (h : MbR st m x l r st') : ∃ B', MbR B m (mA F.e x) (l.map (mA F.e)) (mA F.e r) B' ∧ Em F st' B' := by
  cases h with
  | append x o h => exact ⟨_, .append x (ge_l E o) h, E.set hF o _⟩
  | pop o h g => exact ⟨_, .pop (ge_l E o) h g, E.set hF o _⟩
  | reverse o h => exact ⟨_, .reverse (ge_l E o) h, E.set hF o _⟩
  | startswith x y => exact ⟨_, .startswith x y, E⟩
  | get h g => exact ⟨_, .get (E.get _ _ h) (dg_m _ g), E⟩
  | getE e h g => exact ⟨_, .getE e (E.get _ _ h) (dg_m _ g), E⟩
  | join sep o h => exact ⟨_, .join sep (ge_l E o) h, E⟩
  | joinD sep h => exact ⟨_, .joinD sep h, E⟩
  | split a b c => exact ⟨_, .split a b c, E⟩
theorem ins_m {v : AV} {c : Nat} {fs : List (Nat × AV)} (h : insOf st v = some (c, fs)) : insOf B (mA F.e v) = some (c, mF F.e fs) := by
  cases v with
  | d d => cases h
  | own l => cases h
  | ob n =>
    have h : (match st[n]? with | some (.ins c fs) => some (c, fs) | _ => none) = some (c, fs) := h
    show (match B[F.e n]? with | some (.ins c fs) => some (c, fs) | _ => none) = some (c, mF F.e fs)
    cases e : st[n]? with
    | none => rw [e] at h; cases h
    | some o =>
      rw [E.get n o e]
      rw [e] at h
      cases o with
      | ins k gs => cases h; rfl
      | _ => cases h
omit E
theorem bin_m {o : BO} {x y r : AV} (e : Nat → Nat) (h : BinR o x y r) : BinR o (mA e x) (mA e y) (mA e r) := by
  cases h with
  | add x y => exact .add x y
  | sub x y => exact .sub x y
  | mod h => exact .mod h
  | fdiv h => exact .fdiv h
  | pow => exact .pow
  | addS h => exact .addS h
  | addL h => exact .addL h
theorem to_m {x y r : AV} (e : Nat → Nat) (h : ToR x y r) : ToR (mA e x) (mA e y) (mA e r) := by
  cases h with
  | lst h => exact .lst h
  | tup h => exact .tup h
theorem from_m {x y r : AV} (e : Nat → Nat) (h : FromR x y r) : FromR (mA e x) (mA e y) (mA e r) := by
  cases h with
  | str h => exact .str h
theorem jr_m {x y r : AV} (e : Nat → Nat) (h : JrR x y r) : JrR (mA e x) (mA e y) (mA e r) := by
  cases h with
  | mk s h g => exact .mk s h g
theorem it_m {k : IK} {v : AV} {l : List D} (e : Nat → Nat) (h : ItR k v l) : ItR k (mA e v) l := by
  cases h with
  | lst h => exact .lst h
  | tup h => exact .tup h
  | str h => exact .str h
  | range h => exact .range h
  | rev h => exact .rev h
theorem fget_m (e : Nat → Nat) (fs : List (Nat × AV)) (f : Nat) : fget (mF e fs) f = (fget fs f).map (mA e) := by
  induction fs with
  | nil => rfl
  | cons p r ih =>
    show (if p.1 = f then some (mA e p.2) else fget (mF e r) f) = Option.map (mA e) (if p.1 = f then some p.2 else fget r f)
    by_cases c : p.1 = f
    · rw [if_pos c, if_pos c]; rfl
    · rw [if_neg c, if_neg c]; exact ih
theorem fput_m (e : Nat → Nat) (fs : List (Nat × AV)) (f : Nat) (v : AV) : fput (mF e fs) f (mA e v) = mF e (fput fs f v) := by
  induction fs with
  | nil => rfl
  | cons p r ih =>
    obtain ⟨a, w⟩ := p
    show (if a = f then (a, mA e v) :: mF e r else (a, mA e w) :: fput (mF e r) f (mA e v)) = mF e (if a = f then (a, v) :: r else (a, w) :: fput r f v)
    by_cases c : a = f
    · rw [if_pos c, if_pos c]; rfl
    · rw [if_neg c, if_neg c, ih]; rfl
theorem mF_len (e : Nat → Nat) (fs : List (Nat × AV)) : (mF e fs).length = fs.length := by
  induction fs with
  | nil => rfl
  | cons p r ih => exact congrArg (· + 1) ih
theorem getD_m (e : Nat → Nat) (vs : Vars) (i : Nat) : (mV e vs).getD i none = (vs.getD i none).map (mA e) := by
  unfold mV
  rw [List.getD_eq_getElem?_getD, List.getD_eq_getElem?_getD, List.getElem?_map]
  cases vs[i]? <;> rfl
theorem set_m (e : Nat → Nat) (vs : Vars) (i : Nat) (v : AV) : (mV e vs).set i (some (mA e v)) = mV e (vs.set i (some v)) := by
  unfold mV
  rw [List.map_set]; rfl
theorem caps_m (e : Nat → Nat) (vs : Vars) (is : List Nat) : ∀ {cv : List AV}, capsOf vs is = some cv → capsOf (mV e vs) is = some (cv.map (mA e)) := by
  induction is with
  | nil => intro cv h; cases h; rfl
  | cons i r ih =>
    intro cv h
    replace h : (match vs.getD i none, capsOf vs r with
      | some (.d x), some l => some (.d x :: l)
      | some (.ob n), some l => some (.ob n :: l)
      | _, _ => none) = some cv := h
    show (match (mV e vs).getD i none, capsOf (mV e vs) r with
      | some (.d x), some l => some (.d x :: l)
      | some (.ob n), some l => some (.ob n :: l)
      | _, _ => none) = some (cv.map (mA e))
    rw [getD_m]
    cases e2 : capsOf vs r with
    | none =>
      rw [e2] at h
      cases e1 : vs.getD i none with
      | none => rw [e1] at h; cases h
      | some v => rw [e1] at h; cases v <;> cases h
    | some l =>
      rw [e2] at h
      rw [ih e2]
      cases e1 : vs.getD i none with
      | none => rw [e1] at h; cases h
      | some v => rw [e1] at h; cases v <;> cases h <;> rfl
theorem foldT_m (e : Nat → Nat) (l : List ((Nat × Pos) × D)) : ∀ (vs vs' : Vars), l.foldlM (fun (vs : Vars) (q : (Nat × Pos) × D) => if q.1.1 < vs.length then some (vs.set q.1.1 (some (.d q.2))) else none) vs = some vs' →
    l.foldlM (fun (vs : Vars) (q : (Nat × Pos) × D) => if q.1.1 < vs.length then some (vs.set q.1.1 (some (.d q.2))) else none) (mV e vs) = some (mV e vs') := by
  induction l with
  | nil => intro vs vs' h; cases h; rfl
  | cons p r ih =>
    intro vs vs' h
    rw [List.foldlM_cons] at h ⊢
    have el : (mV e vs).length = vs.length := List.length_map _
    by_cases c : p.1.1 < vs.length
    · rw [if_pos c] at h
      rw [if_pos (el ▸ c), show (mV e vs).set p.1.1 (some (.d p.2)) = mV e (vs.set p.1.1 (some (.d p.2))) from set_m e vs _ (.d p.2)]
      exact ih _ _ h
    · rw [if_neg c] at h; cases h
theorem setT_m (e : Nat → Nat) (t : Tg) (v : AV) (vs : Vars) {vs' : Vars} (h : setT t v vs = some vs') : setT t (mA e v) (mV e vs) = some (mV e vs') := by
  have el : (mV e vs).length = vs.length := List.length_map _
  cases t with
  | nm i p =>
    replace h : (if i < vs.length then some (vs.set i (some v)) else none) = some vs' := h
    show (if i < (mV e vs).length then some ((mV e vs).set i (some (mA e v))) else none) = some (mV e vs')
    by_cases c : i < vs.length
    · rw [if_pos c] at h
      rw [if_pos (el ▸ c), set_m]
      cases h; rfl
    · rw [if_neg c] at h; cases h
  | tp is k p =>
    cases v with
    | ob n => cases h
    | own l => cases h
    | d d =>
      cases d with
      | tup l =>
        replace h : (if is.length = l.length then (is.zip l).foldlM (fun (vs : Vars) (q : (Nat × Pos) × D) => if q.1.1 < vs.length then some (vs.set q.1.1 (some (.d q.2))) else none) vs else none) = some vs' := h
        show (if is.length = l.length then (is.zip l).foldlM (fun (vs : Vars) (q : (Nat × Pos) × D) => if q.1.1 < vs.length then some (vs.set q.1.1 (some (.d q.2))) else none) (mV e vs) else none) = some (mV e vs')
        by_cases c : is.length = l.length
        · rw [if_pos c] at h ⊢; exact foldT_m e _ _ _ h
        · rw [if_neg c] at h; cases h
      | _ => cases h
end
end Mn
end
section
namespace Mn
noncomputable def CM (F : Fr) (C C' : CallT) : Prop := ∀ ⦃f : Nat⦄ ⦃vs : List AV⦄ ⦃st B : List AO⦄ ⦃Q Q' : AV → List AO → Prop⦄, Em F st B → (∀ v st B, Em F st B → Q v st → Q' (mA F.e v) B) → C f vs st Q → C' f (vs.map (mA F.e)) B Q'
section
variable {P : Pg} {C N C' N' : CallT} {F : Fr} (hF : F.Ok) (hC : CM F C C') (hN : CM F N N')
noncomputable def RX (P : Pg) (C N C' N' : CallT) (F : Fr) (x : X) : Prop := ∀ ⦃c : Bool⦄ ⦃vs : Vars⦄ ⦃st B : List AO⦄ ⦃Q Q' : AV → List AO → Prop⦄, Em F st B → (∀ v st B, Em F st B → Q v st → Q' (mA F.e v) B) → wpX P C N x c vs st Q → wpX P C' N' x c (mV F.e vs) B Q'
noncomputable def RXs (P : Pg) (C N C' N' : CallT) (F : Fr) (x : Xs) : Prop := ∀ ⦃vs : Vars⦄ ⦃st B : List AO⦄ ⦃Q Q' : List AV → List AO → Prop⦄, Em F st B → (∀ v st B, Em F st B → Q v st → Q' (v.map (mA F.e)) B) → wpXs P C N x vs st Q → wpXs P C' N' x (mV F.e vs) B Q'
noncomputable def RDs (P : Pg) (C N C' N' : CallT) (F : Fr) (x : Xs) : Prop := ∀ ⦃vs : Vars⦄ ⦃st B : List AO⦄ ⦃Q Q' : List D → List AO → Prop⦄, Em F st B → (∀ v st B, Em F st B → Q v st → Q' v B) → wpDs P C N x vs st Q → wpDs P C' N' x (mV F.e vs) B Q'
noncomputable def RB (P : Pg) (C N C' N' : CallT) (F : Fr) (x : Xs) : Prop := ∀ ⦃o : BoolOp⦄ ⦃c : Bool⦄ ⦃vs : Vars⦄ ⦃st B : List AO⦄ ⦃Q Q' : AV → List AO → Prop⦄, Em F st B → (∀ v st B, Em F st B → Q v st → Q' (mA F.e v) B) → wpB P C N o x c vs st Q → wpB P C' N' o x c (mV F.e vs) B Q'
include hC in
theorem w0_m (e0 : E0) {d : D} {cv : List AV} {st B : List AO} {Q Q' : AV → List AO → Prop} (E : Em F st B) (q : ∀ v st B, Em F st B → Q v st → Q' (mA F.e v) B) (h : wp0 P C e0 d cv st Q) : wp0 P C' e0 d (cv.map (mA F.e)) B Q' := by
  cases e0 with
  | cal f x cs np xp p => exact hC (vs := .d d :: cv) E q h
  | met o x m op ap xp p =>
    match cv, h with
    | [o], h =>
      replace h : (match insOf st o with | some (k, _) => (match mthOf P k m with | some f => C f [o, .d d] st Q | none => False) | none => False) := h
      show (match insOf B (mA F.e o) with | some (k, _) => (match mthOf P k m with | some f => C' f [mA F.e o, .d d] B Q' | none => False) | none => False)
      cases e : insOf st o with
      | none => rw [e] at h; exact h.elim
      | some p =>
        obtain ⟨k, fs⟩ := p
        rw [e] at h
        rw [ins_m E e]
        replace h : (match mthOf P k m with | some f => C f [o, .d d] st Q | none => False) := h
        show (match mthOf P k m with | some f => C' f [mA F.e o, .d d] B Q' | none => False)
        cases e2 : mthOf P k m with
        | none => rw [e2] at h; exact h.elim
        | some f => rw [e2] at h; exact hC (vs := [o, .d d]) E q h
theorem comp_m {b b' : D → List AO → (AV → List AO → Prop) → Prop} (hb : ∀ d ⦃st B : List AO⦄ ⦃Q Q' : AV → List AO → Prop⦄, Em F st B → (∀ v st B, Em F st B → Q v st → Q' (mA F.e v) B) → b d st Q → b' d B Q') : ∀ (l acc : List D) {st B : List AO} {Q Q' : List D → List AO → Prop}, Em F st B → (∀ v st B, Em F st B → Q v st → Q' v B) → compW b l acc st Q → compW b' l acc B Q' := by
  intro l
  induction l with
  | nil => intro acc st B Q Q' E q h; exact q _ _ _ E h
  | cons d r ih =>
    intro acc st B Q Q' E q h
    refine hb d E (fun v st B E h => ?_) h
    cases v with
    | d y => exact ih _ E q h
    | ob n => exact h.elim
    | own l => exact h.elim
include hF hC hN
mutual
theorem fX : ∀ x : X, RX P C N C' N' F x
  | .loc i p => fun c vs st B Q Q' E q h => by
    replace h : (match vs.getD i none with | some (.own l) => c = true ∧ finX c Q (.own l) st | some v => finX c Q v st | none => False) := h
    show (match (mV F.e vs).getD i none with | some (.own l) => c = true ∧ finX c Q' (.own l) B | some v => finX c Q' v B | none => False)
    rw [getD_m]
    cases e : vs.getD i none with
    | none => rw [e] at h; exact h.elim
    | some v =>
      rw [e] at h
      cases v with
      | d d => exact fin_m E q h
      | ob n => exact fin_m E q h
      | own l => exact ⟨h.1, fin_m E q h.2⟩
  | .gv k p => fun c vs st B Q Q' E q h => by
    replace h : (match (P.gtab.map (·.2))[k]? with | some d => finX c Q (.d d) st | none => False) := h
    show (match (P.gtab.map (·.2))[k]? with | some d => finX c Q' (.d d) B | none => False)
    cases e : (P.gtab.map (·.2))[k]? with
    | none => rw [e] at h; exact h.elim
    | some d => rw [e] at h; exact fin_m E q h
  | .cint n k p => fun _ _ _ _ _ _ E q h => fin_m (v := .d (.int n)) E q h
  | .cstr s k p => fun _ _ _ _ _ _ E q h => fin_m (v := .d (.str (codes s))) E q h
  | .cnon k p => fun _ _ _ _ _ _ E q h => fin_m (v := .d .non) E q h
  | .cboo b k p => fun _ _ _ _ _ _ E q h => fin_m (v := .d (.boo b)) E q h
  | .neg a p => fun c vs st B Q Q' E q h => fX a E (fun v st B E h => by
      cases v with
      | d d =>
        cases d with
        | int n => exact fin_m (v := .d (.int (-n))) E q h
        | _ => exact h.elim
      | _ => exact h.elim) h
  | .not a p => fun c vs st B Q Q' E q h => by
    cases c with
    | true => exact fX a E (fun v st B E h => by
        cases v with
        | d d =>
          cases d with
          | boo b => exact q (.d (.boo (!b))) _ _ E h
          | _ => exact h.elim
        | _ => exact h.elim) h
    | false => exact fX a E (fun v st B E h => trW_m E (fun b h => q (.d (.boo (!b))) _ _ E h) h) h
  | .bin o a b p => fun c vs st B Q Q' E q h => fX a E (fun x st B E h => fX b E (fun y st B E h => by
      obtain ⟨r, g, h⟩ := h
      exact ⟨_, bin_m F.e g, fin_m E q h⟩) h) h
  | .cmp o a b p => fun c vs st B Q Q' E q h => fX a E (fun x st B E h => fX b E (fun y st B E h => by
      obtain ⟨r, g, h⟩ := h
      exact ⟨r, ca_m E g, q (.d (.boo r)) _ _ E h⟩) h) h
  | .bool o as p => fun _ _ _ _ _ _ E q h => fBx as E q h
  | .ite t a b p => fun c vs st B Q Q' E q h => fX t E (fun v st B E h => by
      cases v with
      | d d =>
        cases d with
        | boo x =>
          cases x with
          | true => exact fX a E q h
          | false => exact fX b E q h
        | _ => exact h.elim
      | _ => exact h.elim) h
  | .tup as k p => fun c vs st B Q Q' E q h => fDs as E (fun l st B E h => ⟨h.1, fin_m (v := .d (.tup l)) E q h.2⟩) h
  | .lst as p => fun c vs st B Q Q' E q h => fDs as E (fun l st B E h => ⟨h.1, fin_m (v := .d (.lst l)) E q h.2⟩) h
  | .newl p => fun c vs st B Q Q' E q h => by
    have := fin_m (E.app (.lst [])) q h
    rw [show mA F.e (.ob st.length) = .ob B.length from congrArg AV.ob E.e] at this
    exact this
  | .newls as p => fun c vs st B Q Q' E q h => fDs as E (fun l st B E h => ⟨h.1, by
    have := fin_m (E.app (.lst l)) q h.2
    rw [show mA F.e (.ob st.length) = .ob B.length from congrArg AV.ob E.e] at this
    exact this⟩) h
  | .newd p => fun c vs st B Q Q' E q h => by
    have := fin_m (E.app .d0) q h
    rw [show mA F.e (.ob st.length) = .ob B.length from congrArg AV.ob E.e] at this
    exact this
  | .att a f p => fun c vs st B Q Q' E q h => fX a E (fun v st B E h => by
      cases e : insOf st v with
      | none => rw [e] at h; exact h.elim
      | some p =>
        obtain ⟨k, fs⟩ := p
        rw [e] at h
        rw [ins_m E e]
        replace h : (match fget fs f with | some r => finX c Q r st | none => False) := h
        show (match fget (mF F.e fs) f with | some r => finX c Q' r B | none => False)
        rw [fget_m]
        cases e2 : fget fs f with
        | none => rw [e2] at h; exact h.elim
        | some r => rw [e2] at h; exact fin_m E q h) h
  | .idx a b p => fun c vs st B Q Q' E q h => fX a E (fun x st B E h => fX b E (fun y st B E h => by
      obtain ⟨r, g, h⟩ := h
      exact ⟨_, idx_m E g, fin_m E q h⟩) h) h
  | .slcTo a b sp p => fun c vs st B Q Q' E q h => fX a E (fun x st B E h => fX b E (fun y st B E h => by
      obtain ⟨r, g, h⟩ := h
      exact ⟨_, to_m F.e g, fin_m E q h⟩) h) h
  | .slcFrom a b sp p => fun c vs st B Q Q' E q h => fX a E (fun x st B E h => fX b E (fun y st B E h => by
      obtain ⟨r, g, h⟩ := h
      exact ⟨_, from_m F.e g, fin_m E q h⟩) h) h
  | .cal f as np p => fun _ _ _ _ _ _ E q h => fXs as E (fun l st B E h => hC E (fun v st B E h => fin_m E q h) h) h
  | .new k as np p => fun _ _ _ _ _ _ E q h => fXs as E (fun l st B E h => hN E (fun v st B E h => fin_m E q h) h) h
  | .bi b as np p => fun _ _ _ _ _ _ E q h => fXs as E (fun l st B E h => by
      obtain ⟨r, g, h⟩ := h
      exact ⟨_, bi_m E g, fin_m E q h⟩) h
  | .met a m as ap p => fun c vs st B Q Q' E q h => fX a E (fun v st B E h => by
      cases e : insOf st v with
      | none => rw [e] at h; exact h.elim
      | some p =>
        obtain ⟨k, fs⟩ := p
        rw [e] at h
        rw [ins_m E e]
        replace h : (match mthOf P k m with | some f => wpXs P C N as vs st fun l st => C f (v :: l) st (finX c Q) | none => False) := h
        show (match mthOf P k m with | some f => wpXs P C' N' as (mV F.e vs) B fun l st => C' f (mA F.e v :: l) st (finX c Q') | none => False)
        cases e2 : mthOf P k m with
        | none => rw [e2] at h; exact h.elim
        | some f =>
          rw [e2] at h
          exact fXs as E (fun l st B E h => hC (vs := v :: l) E (fun v st B E h => fin_m E q h) h) h) h
  | .mb a m as ap p => fun c vs st B Q Q' E q h => fX a E (fun v st B E h => ⟨mbT_m E h.1, fXs as E (fun l st B E h => by
      obtain ⟨r, st', g, h⟩ := h
      obtain ⟨B', g', E'⟩ := mb_m E hF g
      exact ⟨_, B', g', fin_m E' q h⟩) h.2⟩) h
  | .jrev a l _ _ _ _ => fun c vs st B Q Q' E q h => fX a E (fun x st B E h => ⟨mbT_m E h.1, fX l E (fun y st B E h => by
      obtain ⟨r, g, h⟩ := h
      exact ⟨_, jr_m F.e g, fin_m E q h⟩) h.2⟩) h
  | .comp e it tp sc p => fun c vs st B Q Q' E q h => by
    obtain ⟨cv, e1, h⟩ := h
    refine ⟨_, caps_m F.e vs _ e1, fX it E (fun v st B E h => ?_) h⟩
    obtain ⟨l, e2, e3, h⟩ := h
    exact ⟨l, it_m F.e e2, e3, comp_m (b' := fun d st Q => wp0 P C' e d (cv.map (mA F.e)) st Q) (fun d st B Q Q' E q h => w0_m hC e E q h) l [] E (fun ys st B E h => fin_m (v := .d (.lst ys)) E q h) h⟩
  termination_by structural x => x
theorem fBx : ∀ x : Xs, RB P C N C' N' F x
  | .nil => fun _ _ _ _ _ _ _ E q h => h.elim
  | .cons x r => fun o c vs st B Q Q' E q h => by
    cases r with
    | nil => exact fX x E q h
    | cons y s => exact fX x E (fun v st B E h => trW_m E (fun b h => by
        by_cases e : b = stp o
        · rw [if_pos e] at h ⊢; exact q _ _ _ E h
        · rw [if_neg e] at h ⊢; exact fBx (.cons y s) E q h) h) h
  termination_by structural x => x
theorem fXs : ∀ x : Xs, RXs P C N C' N' F x
  | .nil => fun _ _ _ _ _ E q h => q [] _ _ E h
  | .cons x r => fun _ _ _ _ _ E q h => fX x E (fun v st B E h => fXs r E (fun l st B E h => q (v :: l) _ _ E h) h) h
  termination_by structural x => x
theorem fDs : ∀ x : Xs, RDs P C N C' N' F x
  | .nil => fun _ _ _ _ _ E q h => q [] _ _ E h
  | .cons x r => fun _ _ _ _ _ E q h => fX x E (fun v st B E h => by
      cases v with
      | d y => exact fDs r E (fun l st B E h => q (y :: l) _ _ E h) h
      | ob n => exact h.elim
      | own l => exact h.elim) h
  termination_by structural x => x
end
end
end Mn
end
section
namespace Mn
noncomputable def mFl (e : Nat → Nat) : Fl → Fl
  | .rt v => .rt (mA e v)
  | f => f
abbrev PQ := Fl → Vars → List AO → Prop
noncomputable def QM (F : Fr) (Q Q' : PQ) : Prop := ∀ fl vs st B, Em F st B → Q fl vs st → Q' (mFl F.e fl) (mV F.e vs) B
noncomputable def RSt (F : Fr) (w w' : Vars → List AO → PQ → Prop) : Prop := ∀ ⦃vs : Vars⦄ ⦃st B : List AO⦄ ⦃Q Q' : PQ⦄, Em F st B → QM F Q Q' → w vs st Q → w' (mV F.e vs) B Q'
section
variable {F : Fr}
theorem loopW_m {t t' : Vars → List AO → (AV → List AO → Prop) → Prop} {b b' : Vars → List AO → PQ → Prop}
    (ht : ∀ ⦃vs : Vars⦄ ⦃st B : List AO⦄ ⦃Q Q' : AV → List AO → Prop⦄, Em F st B → (∀ v st B, Em F st B → Q v st → Q' (mA F.e v) B) → t vs st Q → t' (mV F.e vs) B Q')
    (hb : RSt F b b') : ∀ n, RSt F (fun vs st Q => loopW t b n vs st Q) (fun vs st Q => loopW t' b' n vs st Q) := by
  intro n
  induction n with
  | zero => intro vs st B Q Q' E q h; exact h.elim
  | succ n ih =>
    intro vs st B Q Q' E q h
    refine ht E (fun v st B E h => ?_) h
    cases v with
    | d d =>
      cases d with
      | boo x =>
        cases x with
        | false => exact q .nx _ _ _ E h
        | true =>
          refine hb E (fun fl vs st B E h => ?_) h
          cases fl with
          | nx => exact ih E q h
          | ct => exact ih E q h
          | bk => exact q .nx _ _ _ E h
          | rt v => exact q (.rt v) _ _ _ E h
      | _ => exact h.elim
    | _ => exact h.elim
theorem loopF_m {t : Tg} {b b' : Vars → List AO → PQ → Prop} (hb : RSt F b b') : ∀ l, RSt F (fun vs st Q => loopF t b l vs st Q) (fun vs st Q => loopF t b' l vs st Q) := by
  intro l
  induction l with
  | nil => intro vs st B Q Q' E q h; exact q .nx _ _ _ E h
  | cons x r ih =>
    intro vs st B Q Q' E q h
    show (match setT t (mA F.e (.d x)) (mV F.e vs) with | some vs => _ | none => False)
    replace h : (match setT t (.d x) vs with
      | some vs => b vs st fun fl vs st => match fl with
        | .nx => loopF t b r vs st Q
        | .ct => loopF t b r vs st Q
        | .bk => Q .nx vs st
        | .rt v => Q (.rt v) vs st
      | none => False) := h
    cases e : setT t (.d x) vs with
    | none => rw [e] at h; exact h.elim
    | some vs' =>
      rw [e] at h
      rw [setT_m F.e t _ vs e]
      refine hb E (fun fl vs st B E h => ?_) h
      cases fl with
      | nx => exact ih E q h
      | ct => exact ih E q h
      | bk => exact q .nx _ _ _ E h
      | rt v => exact q (.rt v) _ _ _ E h
variable {P : Pg} {C N C' N' : CallT} (hF : F.Ok) (hC : CM F C C') (hN : CM F N N')
include hF hC hN
mutual
theorem fSx : ∀ x : S, RSt F (wpS P C N x) (wpS P C' N' x)
  | .asg t x p => fun vs st B Q Q' E q h => fX hF hC hN x E (fun v st B E h => by
      cases e : setT t v vs with
      | none => rw [e] at h; exact h.elim
      | some vs' => rw [e] at h; rw [setT_m F.e t v vs e]; exact q .nx _ _ _ E h) h
  | .asgA a f x pt p => fun vs st B Q Q' E q h => fX hF hC hN x E (fun v st B E h => fX hF hC hN a E (fun o st B E h => by
      obtain ⟨n, c, fs, e1, e2, e3, h⟩ := h
      subst e1
      refine ⟨_, c, mF F.e fs, rfl, E.get _ _ e2, by rw [mF_len]; exact e3, ?_⟩
      rw [fput_m]
      exact q .nx _ _ _ (E.set hF e2 (.ins c (fput fs f v))) h) h) h
  | .asgI a k x pt p => fun vs st B Q Q' E q h => fX hF hC hN x E (fun v st B E h => fX hF hC hN a E (fun o st B E h => fX hF hC hN k E (fun k st B E h => by
      obtain ⟨n, k', v', o1, o2, e1, e2, e3, e4, e5, h'⟩ := h
      subst e1 e2 e3
      exact ⟨_, k', v', _, _, rfl, rfl, rfl, E.get _ _ e4, ds_m F.e e5, q .nx _ _ _ (E.set hF e4 o2) h'⟩) h) h) h
  | .delI a k pt p => fun vs st B Q Q' E q h => fX hF hC hN a E (fun o st B E h => fX hF hC hN k E (fun k st B E h => by
      obtain ⟨n, k', es, e1, e2, e3, e4, e5, h'⟩ := h
      subst e1 e2
      exact ⟨_, k', es, rfl, rfl, E.get _ _ e3, e4, e5, q .nx _ _ _ (E.set hF e3 (.dI (adel es k'))) h'⟩) h) h
  | .exp x p => fun vs st B Q Q' E q h => fX hF hC hN x E (fun v st B E h => q .nx _ _ _ E h) h
  | .iff t a b p => fun vs st B Q Q' E q h => fX hF hC hN t E (fun v st B E h => by
      cases v with
      | d d =>
        cases d with
        | boo x =>
          cases x with
          | true => exact fSs a E q h
          | false => exact fSs b E q h
        | _ => exact h.elim
      | _ => exact h.elim) h
  | .whl t b p => fun vs st B Q Q' E q h => by
      obtain ⟨n, h⟩ := h
      exact ⟨n, loopW_m (fun vs st B Q Q' E q h => fX hF hC hN t E q h) (fSs b) n E q h⟩
  | .for_ t k x b p => fun vs st B Q Q' E q h => fX hF hC hN x E (fun v st B E h => by
      obtain ⟨l, e, h⟩ := h
      exact ⟨l, it_m F.e e, loopF_m (fSs b) l E q h⟩) h
  | .ret x p => fun vs st B Q Q' E q h => fX hF hC hN x E (fun v st B E h => q (.rt v) _ _ _ E h) h
  | .pas p => fun vs st B Q Q' E q h => q .nx _ _ _ E h
  | .brk p => fun vs st B Q Q' E q h => q .bk _ _ _ E h
  | .con p => fun vs st B Q Q' E q h => q .ct _ _ _ E h
  | .ownN i as pt pl p => fun vs st B Q Q' E q h => by
      refine ⟨by unfold mV; rw [List.length_map]; exact h.1, fDs hF hC hN as E (fun l st B E h => ⟨h.1, ?_⟩) h.2⟩
      have := q .nx _ _ _ E h.2
      rw [← set_m] at this
      exact this
  | .ownA i x pn ap pc p => fun vs st B Q Q' E q h => by
      replace h : (match vs.getD i none with
        | some (.own l) => wpX P C N x false vs st fun v st => match v with | .d x => l.length ≤ big ∧ Q .nx (vs.set i (some (.own (l ++ [x])))) st | _ => False
        | _ => False) := h
      show (match (mV F.e vs).getD i none with
        | some (.own l) => wpX P C' N' x false (mV F.e vs) B fun v st => match v with | .d x => l.length ≤ big ∧ Q' .nx ((mV F.e vs).set i (some (.own (l ++ [x])))) st | _ => False
        | _ => False)
      rw [getD_m]
      cases e : vs.getD i none with
      | none => rw [e] at h; exact h.elim
      | some v =>
        rw [e] at h
        cases v with
        | d d => exact h.elim
        | ob n => exact h.elim
        | own l =>
          refine fX hF hC hN x E (fun v st B E h => ?_) h
          cases v with
          | d x =>
            have := q .nx _ _ _ E h.2
            rw [← set_m] at this
            exact ⟨h.1, this⟩
          | ob n => exact h.elim
          | own l => exact h.elim
  | .frz i => fun vs st B Q Q' E q h => by
      replace h : (match vs.getD i none with | some (.own l) => Q .nx (vs.set i (some (.d (.lst l)))) st | _ => False) := h
      show (match (mV F.e vs).getD i none with | some (.own l) => Q' .nx ((mV F.e vs).set i (some (.d (.lst l)))) B | _ => False)
      rw [getD_m]
      cases e : vs.getD i none with
      | none => rw [e] at h; exact h.elim
      | some v =>
        rw [e] at h
        cases v with
        | d d => exact h.elim
        | ob n => exact h.elim
        | own l =>
          have := q .nx _ _ _ E h
          rw [← set_m] at this
          exact this
  | .bad s => fun vs st B Q Q' E q h => h.elim
  termination_by structural x => x
theorem fSs : ∀ x : Ss, RSt F (wpSs P C N x) (wpSs P C' N' x)
  | .nil => fun vs st B Q Q' E q h => q .nx _ _ _ E h
  | .cons s r => fun vs st B Q Q' E q h => fSx s E (fun fl vs st B E h => by
      cases fl with
      | nx => exact fSs r E q h
      | bk => exact q .bk _ _ _ E h
      | ct => exact q .ct _ _ _ E h
      | rt v => exact q (.rt v) _ _ _ E h) h
  termination_by structural x => x
end
end
noncomputable def CWN : Nat → CallT × CallT
  | 0 => (fun _ _ _ _ => False, fun _ _ _ _ => False)
  | n + 1 => (fun f vs st Q => ∃ fi ir, P0.fns[f]? = some fi ∧ irs0[f]? = some ir ∧ (decide (vs.length ≤ fi.npar) && decide (fi.npar ≤ vs.length + fi.defs.length)) = true ∧ wpSs P0 (CWN n).1 (CWN n).2 ir (argVars fi vs) st (retQ Q),
    fun c vs st Q => ∃ f, c < P0.clss.length ∧ P0.inits[c]? = some f ∧ (CWN n).1 f (.ob st.length :: vs) (st ++ [.ins c []]) fun v st' => v = .d .non ∧ Q (.ob st.length) st')
theorem wkI : Wk (fun n => (CWN n).1) (fun n => (CWN n).2) := ⟨fun h1 h2 h3 h4 => ⟨_, _, h1, h2, h3, h4⟩, fun h1 h2 h3 => ⟨_, h1, h2, h3⟩⟩
theorem args_m (e : Nat → Nat) (fi : FnI) (vs : List AV) : mV e (argVars fi vs) = argVars fi (vs.map (mA e)) := by
  unfold mV argVars
  rw [List.map_append, List.map_replicate, List.length_map, List.map_append, List.map_append, List.map_append, List.map_map, List.map_map, List.map_map, List.map_map, List.map_map]
  rfl
theorem ret_m {F : Fr} {Q Q' : AV → List AO → Prop} (q : ∀ v st B, Em F st B → Q v st → Q' (mA F.e v) B) : QM F (retQ Q) (retQ Q') := by
  intro fl vs st B E h
  cases fl with
  | nx => exact q (.d .non) _ _ E h
  | rt v => exact q v _ _ E h
  | bk => exact h.elim
  | ct => exact h.elim
theorem frame {CW NW : Nat → CallT} (K : Wk CW NW) {F : Fr} (hF : F.Ok) (n : Nat) : CM F (CWN n).1 (CW n) ∧ CM F (CWN n).2 (NW n) := by
  induction n with
  | zero => exact ⟨fun _ _ _ _ _ _ _ _ h => h.elim, fun _ _ _ _ _ _ _ _ h => h.elim⟩
  | succ n ih =>
    refine ⟨fun f vs st B Q Q' E q h => ?_, fun c vs st B Q Q' E q h => ?_⟩
    · obtain ⟨fi, ir, h1, h2, h3, h⟩ := h
      refine K.c h1 h2 (by rw [List.length_map]; exact h3) ?_
      rw [← args_m]
      exact fSs hF ih.1 ih.2 ir E (ret_m q) h
    · obtain ⟨f, h1, h2, h⟩ := h
      refine K.n h1 h2 ?_
      have := ih.1 (Q' := fun v B => v = .d .non ∧ Q' (mA F.e (.ob st.length)) B) (E.app (.ins c [])) (fun v st B E h => ⟨by rw [h.1]; rfl, q _ _ _ E h.2⟩) h
      rw [List.map_cons, show mA F.e (.ob st.length) = .ob B.length from congrArg AV.ob E.e] at this
      exact this
end Mn
end
section
namespace Mn
noncomputable def place : List Nat → List AO → List AO → List AO
  | [], os, B => B ++ os
  | a :: l, o :: os, B => place l os (B.set a o)
  | _ :: _, [], B => B
structure PG (l : List Nat) (os B R : List AO) : Prop where
  i : ∀ (i a : Nat), l[i]? = some a → R[a]? = os[i]?
  o : ∀ (a : Nat), a ∉ l → a < B.length → R[a]? = B[a]?
  n : ∀ (j : Nat), R[B.length + j]? = os[l.length + j]?
theorem place_get : ∀ (l : List Nat) (os B : List AO), l.Nodup → (∀ a ∈ l, a < B.length) → l.length ≤ os.length → PG l os B (place l os B) := by
  intro l
  induction l with
  | nil =>
    intro os B _ _ _
    refine ⟨fun i a h => (by cases h), fun a _ h => List.getElem?_append_left h, fun j => ?_⟩
    show (B ++ os)[B.length + j]? = _
    rw [List.getElem?_append_right (Nat.le_add_right _ _), Nat.add_sub_cancel_left, List.length_nil, Nat.zero_add]
  | cons a l ih =>
    intro os B hn hl ho
    cases os with
    | nil => cases ho
    | cons o os =>
      have hn' := List.nodup_cons.mp hn
      have hb : a < B.length := hl a List.mem_cons_self
      have r := ih os (B.set a o) hn'.2 (fun x hx => by rw [List.length_set]; exact hl x (List.mem_cons_of_mem _ hx)) (Nat.le_of_succ_le_succ ho)
      refine ⟨fun i x hi => ?_, fun x hx hb' => ?_, fun j => ?_⟩
      · cases i with
        | zero =>
          cases hi
          have := r.o a hn'.1 (by rw [List.length_set]; exact hb)
          rw [List.getElem?_set_self hb] at this
          exact this
        | succ i => exact r.i i x hi
      · have := r.o x (fun c => hx (List.mem_cons_of_mem _ c)) (by rw [List.length_set]; exact hb')
        rw [List.getElem?_set_ne (fun c : a = x => hx (by rw [c]; exact List.mem_cons_self))] at this
        exact this
      · have := r.n j
        rw [List.length_set] at this
        rw [List.length_cons, Nat.add_right_comm]
        exact this
noncomputable def bigS (F : Fr) (st : List AO) : List AO := place F.l (st.map (mO F.e)) F.B0
theorem em_eq {F : Fr} (hF : F.Ok) (hN : F.N = F.B0.length) {st B : List AO} (E : Em F st B) : B = bigS F st := by
  have r := place_get F.l (st.map (mO F.e)) F.B0 hF.nd (fun a h => hN ▸ hF.lt a h) (by rw [List.length_map]; exact E.ln.1)
  have hl := E.ln
  apply List.ext_getElem?
  intro j
  show _ = (place F.l (st.map (mO F.e)) F.B0)[j]?
  rcases Nat.lt_or_ge j F.N with c | c
  · by_cases h : j ∈ F.l
    · obtain ⟨i, hi⟩ := List.getElem?_of_mem h
      have i1 := (List.getElem?_eq_some_iff.mp hi).1
      rw [r.i i j hi, List.getElem?_map]
      have i2 : i < st.length := lin (ad hl.1 i1)
      have e2 : st[i]? = some st[i] := List.getElem?_eq_getElem i2
      have e3 := E.get i _ e2
      rw [show F.e i = j from by have := (e_in i1).2; rw [hi] at this; cases this; rfl] at e3
      rw [e3, e2]; rfl
    · rw [r.o j h (hN ▸ c)]
      exact E.fr j c h
  · obtain ⟨k, rfl⟩ : ∃ k, j = F.N + k := ⟨j - F.N, by omega⟩
    have := r.n k
    rw [← hN] at this
    rw [this, List.getElem?_map]
    rcases Nat.lt_or_ge (F.l.length + k) st.length with d | d
    · have e2 : st[F.l.length + k]? = some st[F.l.length + k] := List.getElem?_eq_getElem d
      have e3 := E.get _ _ e2
      rw [show F.e (F.l.length + k) = F.N + k from by rw [e_out (Nat.le_add_right _ _)]; omega] at e3
      rw [e3, e2]; rfl
    · rw [List.getElem?_eq_none d, List.getElem?_eq_none (lin (ad (lq hl.2) d))]; rfl
theorem em_start {F : Fr} (hN : F.N = F.B0.length) {st : List AO} (h : F.l.map (F.B0[·]?) = st.map fun o => some (mO F.e o)) : Em F st F.B0 := by
  have hl : F.l.length = st.length := by have := congrArg List.length h; rw [List.length_map, List.length_map] at this; exact this
  refine ⟨⟨Nat.le_of_eq hl, by rw [hl, hN]⟩, fun i o hi => ?_, fun j _ _ => rfl⟩
  have i1 : i < F.l.length := by rw [hl]; exact (List.getElem?_eq_some_iff.mp hi).1
  have := congrArg (·[i]?) h
  replace this : (F.l.map (F.B0[·]?))[i]? = (st.map fun o => some (mO F.e o))[i]? := this
  rw [List.getElem?_map, List.getElem?_map, hi, (e_in i1).2] at this
  exact Option.some.inj this
theorem rc_frame {CW NW : Nat → CallT} (K : Wk CW NW) (l : List Nat) (B : List AO) (hd : l.Nodup) (hl : ∀ a ∈ l, a < B.length) {n f : Nat} {vs : List AV} {st st' : List AO} {v : AV} (h : RC (CWN n).1 f vs st v st')
    (hs : l.map (B[·]?) = st.map fun o => some (mO (Fr.e ⟨l, B.length, B⟩) o)) : RC (CW n) f (vs.map (mA (Fr.e ⟨l, B.length, B⟩))) B (mA (Fr.e ⟨l, B.length, B⟩) v) (bigS ⟨l, B.length, B⟩ st') := by
  intro Q q
  have hF : Fr.Ok ⟨l, B.length, B⟩ := ⟨hd, hl⟩
  refine (frame K hF n).1 (em_start (F := ⟨l, B.length, B⟩) rfl hs) (Q := fun w s => w = v ∧ s = st') (fun w s B' E e => ?_) (h _ ⟨rfl, rfl⟩)
  obtain ⟨rfl, rfl⟩ := e
  rw [em_eq hF rfl E]
  exact q
theorem rn_frame {CW NW : Nat → CallT} (K : Wk CW NW) (l : List Nat) (B : List AO) (hd : l.Nodup) (hl : ∀ a ∈ l, a < B.length) {n f : Nat} {vs : List AV} {st st' : List AO} {v : AV} (h : RC (CWN n).2 f vs st v st')
    (hs : l.map (B[·]?) = st.map fun o => some (mO (Fr.e ⟨l, B.length, B⟩) o)) : RC (NW n) f (vs.map (mA (Fr.e ⟨l, B.length, B⟩))) B (mA (Fr.e ⟨l, B.length, B⟩) v) (bigS ⟨l, B.length, B⟩ st') := by
  intro Q q
  have hF : Fr.Ok ⟨l, B.length, B⟩ := ⟨hd, hl⟩
  refine (frame K hF n).2 (em_start (F := ⟨l, B.length, B⟩) rfl hs) (Q := fun w s => w = v ∧ s = st') (fun w s B' E e => ?_) (h _ ⟨rfl, rfl⟩)
  obtain ⟨rfl, rfl⟩ := e
  rw [em_eq hF rfl E]
  exact q
end Mn
end
section
namespace Mn
noncomputable def sst (row texts : List D) (am : AO) (fs : List D) (fn : AO) (rest : List AO) : List AO :=
  .lst row :: .ins 0 [(0, .ob 2), (1, .ob 3), (2, .ob 4), (3, .ob 5)] :: .lst texts :: am :: .lst fs :: fn :: rest
variable {CW NW : Nat → CallT} (K : Wk CW NW) (row texts : List D) (am : AO) (fs : List D) (fn : AO) (rest : List AO)
include K
theorem c_atom_old (n : Nat) (s : List Nat) (i : Nat) (h : DG am (.str s) (some (.int i))) : RC (CW (n + 1)) 3 [.ob 1, .d (.str s)] (sst row texts am fs fn rest) (.d (.int i)) (sst row texts am fs fn rest) := by
  intro Q q
  refine K.c (fi := fi3) (ir := ir3) rfl rfl rfl ?_
  refine an (.get rfl h) (exM (.getE _ rfl h) ?_)
  refine exC (.d (.ge _ _)) ?_
  exact q
theorem c_atom_new (n : Nat) (s : List Nat) (an' : AO) (h : DG am (.str s) none) (hd : DS am (.str s) (.int texts.length) an') (hl : texts.length ≤ big) : RC (CW (n + 1)) 3 [.ob 1, .d (.str s)] (sst row texts am fs fn rest) (.d (.int texts.length)) (sst row (texts ++ [.str s]) an' fs fn rest) := by
  intro Q q
  refine K.c (fi := fi3) (ir := ir3) rfl rfl rfl ?_
  refine an (.get rfl h) (exM (.getE _ rfl h) ?_)
  refine exC (.d (.ge _ _)) ?_
  refine exB (.lenO (l := texts) rfl hl) ?_
  refine an (.lst rfl rfl) (exM (.append _ rfl hl) ?_)
  exact ⟨3, .str s, .int texts.length, am, an', rfl, rfl, rfl, rfl, hd, q⟩
theorem c_functor_old (n : Nat) (a r : Int) (i : Nat) (h : DG fn (.tup [.int a, .int r]) (some (.int i))) : RC (CW (n + 1)) 5 [.ob 1, .d (.int a), .d (.int r)] (sst row texts am fs fn rest) (.d (.int i)) (sst row texts am fs fn rest) := by
  intro Q q
  refine K.c (fi := fi5) (ir := ir5) rfl rfl rfl ?_
  refine an bg2 ?_
  refine an (.get rfl h) (exM (.getE _ rfl h) ?_)
  refine exC (.d (.ge _ _)) ?_
  exact q
theorem c_functor_new (n : Nat) (a r : Int) (fn' : AO) (h : DG fn (.tup [.int a, .int r]) none) (hd : DS fn (.tup [.int a, .int r]) (.int fs.length) fn') (hl : fs.length ≤ big) : RC (CW (n + 1)) 5 [.ob 1, .d (.int a), .d (.int r)] (sst row texts am fs fn rest) (.d (.int fs.length)) (sst row texts am (fs ++ [.tup [.int a, .int r]]) fn' rest) := by
  intro Q q
  refine K.c (fi := fi5) (ir := ir5) rfl rfl rfl ?_
  refine an bg2 ?_
  refine an (.get rfl h) (exM (.getE _ rfl h) ?_)
  refine exC (.d (.ge _ _)) ?_
  refine exB (.lenO (l := fs) rfl hl) ?_
  refine an (.lst rfl rfl) (exM (.append _ rfl hl) ?_)
  exact ⟨5, .tup [.int a, .int r], .int fs.length, fn, fn', rfl, rfl, rfl, rfl, hd, q⟩
end Mn
end
section
namespace Mn
noncomputable def enumK {κ : Type} (k : Int) : List κ → List (κ × D)
  | [] => []
  | t :: r => (t, .int k) :: enumK (k + 1) r
section
variable {κ : Type} [DecidableEq κ]
theorem enum_len (l : List κ) : ∀ k : Int, (enumK k l).length = l.length := by
  induction l with
  | nil => intro _; rfl
  | cons x r ih => intro k; exact congrArg Nat.succ (ih _)
theorem enum_none {l : List κ} {x : κ} : ∀ k : Int, x ∉ l → aget (enumK k l) x = none := by
  induction l with
  | nil => intro _ _; rfl
  | cons y r ih =>
    intro k h
    show (if y = x then _ else aget (enumK (k + 1) r) x) = none
    rw [if_neg (fun e => h (by rw [e]; exact List.mem_cons_self)), ih _ (fun c => h (List.mem_cons_of_mem _ c))]
theorem enum_put {l : List κ} {x : κ} : ∀ k : Int, x ∉ l → aput (enumK k l) x (.int (k + l.length)) = enumK k (l ++ [x]) := by
  induction l with
  | nil => intro k _; show [(x, D.int (k + (0 : Nat)))] = [(x, .int k)]; rw [Int.natCast_zero, Int.add_zero]
  | cons y r ih =>
    intro k h
    show (if y = x then _ else (y, D.int k) :: aput (enumK (k + 1) r) x (.int (k + (r.length + 1 : Nat)))) = (y, .int k) :: enumK (k + 1) (r ++ [x])
    rw [if_neg (fun e => h (by rw [e]; exact List.mem_cons_self)), ← ih _ (fun c => h (List.mem_cons_of_mem _ c)), Int.natCast_succ, Int.add_right_comm, Int.add_assoc]
theorem enum_get {l : List κ} {x : κ} : ∀ (k : Int) (i : Nat), l.Nodup → l[i]? = some x → aget (enumK k l) x = some (.int (k + i)) := by
  induction l with
  | nil => intro _ _ _ h; exact nomatch h
  | cons y r ih =>
    intro k i hn h
    show (if y = x then some (D.int k) else aget (enumK (k + 1) r) x) = _
    cases i with
    | zero =>
      cases h
      rw [if_pos rfl, Int.natCast_zero, Int.add_zero]
    | succ i =>
      have hm : x ∈ r := List.mem_of_getElem? h
      rw [if_neg (fun e => (List.nodup_cons.mp hn).1 (by rw [e]; exact hm)), ih _ i (List.nodup_cons.mp hn).2 h, Int.natCast_succ, Int.add_comm i 1, ← Int.add_assoc]
end
noncomputable def oS (l : List (List Nat)) : AO := match l with | [] => .d0 | x :: r => .dS (enumK 0 (x :: r))
noncomputable def oP (l : List (List Int)) : AO := match l with | [] => .d0 | x :: r => .dP (enumK 0 (x :: r))
theorem oS_none {l : List (List Nat)} {x : List Nat} (h : x ∉ l) : DG (oS l) (.str x) none := by
  cases l with
  | nil => exact .s0 _
  | cons y r => have := DG.s (enumK 0 (y :: r)) x; rw [enum_none 0 h] at this; exact this
theorem oS_put {l : List (List Nat)} {x : List Nat} (h : x ∉ l) (hl : l.length ≤ big) : DS (oS l) (.str x) (.int l.length) (oS (l ++ [x])) := by
  cases l with
  | nil => exact .s0 _ _
  | cons y r =>
    have := DS.s (es := enumK 0 (y :: r)) x (.int ((y :: r).length : Nat)) (by rw [enum_len]; exact hl)
    rw [← Int.zero_add (((y :: r).length : Nat) : Int), enum_put 0 h, Int.zero_add] at this
    exact this
theorem oS_get {l : List (List Nat)} {x : List Nat} {i : Nat} (hn : l.Nodup) (h : l[i]? = some x) : DG (oS l) (.str x) (some (.int i)) := by
  cases l with
  | nil => exact nomatch h
  | cons y r => have := DG.s (enumK 0 (y :: r)) x; rw [enum_get 0 i hn h, Int.zero_add] at this; exact this
noncomputable def pr (a r : Int) : List Int := [a, r]
theorem oP_none {l : List (List Int)} {a r : Int} (h : pr a r ∉ l) : DG (oP l) (.tup [.int a, .int r]) none := by
  cases l with
  | nil => exact .t0 [a, r]
  | cons y s => have := DG.t (enumK 0 (y :: s)) (pr a r); rw [enum_none 0 h] at this; exact this
theorem oP_put {l : List (List Int)} {a r : Int} (h : pr a r ∉ l) (hl : l.length ≤ big) : DS (oP l) (.tup [.int a, .int r]) (.int l.length) (oP (l ++ [pr a r])) := by
  cases l with
  | nil => exact .t0 (pr a r) _
  | cons y s =>
    have := DS.t (es := enumK 0 (y :: s)) (pr a r) (.int ((y :: s).length : Nat)) (by rw [enum_len]; exact hl)
    rw [← Int.zero_add (((y :: s).length : Nat) : Int), enum_put 0 h, Int.zero_add] at this
    exact this
theorem oP_get {l : List (List Int)} {a r : Int} {i : Nat} (hn : l.Nodup) (h : l[i]? = some (pr a r)) : DG (oP l) (.tup [.int a, .int r]) (some (.int i)) := by
  cases l with
  | nil => exact nomatch h
  | cons y s => have := DG.t (enumK 0 (y :: s)) (pr a r); rw [enum_get 0 i hn h, Int.zero_add] at this; exact this
theorem nodup_mid {α : Type} {a : List α} {x : α} {r : List α} (h : (a ++ x :: r).Nodup) : x ∉ a ∧ ((a ++ [x]) ++ r).Nodup :=
  ⟨fun c => (List.nodup_append.mp h).2.2 _ c _ List.mem_cons_self rfl, by rw [List.append_assoc]; exact h⟩
noncomputable def fD : List Int → D
  | [a, r] => .tup [.int a, .int r]
  | _ => .non
noncomputable def yst (row : List D) (tx : List (List Nat)) (fs : List (List Int)) (rest : List AO) : List AO := sst row (tx.map .str) (oS tx) (fs.map fD) (oP fs) rest
noncomputable def aNames : List String := ["[]", ".", "{}", "-", "+", "*", "/", ",", "|", ";", "->", "\\+", ":-", "?-", "-->", "!", "true", "fail", "false", "call", "=", "^", "error", "", "end_of_file", "system", "$VAR", "catch", "throw"]
noncomputable def tx0 : List (List Nat) := aNames.map codes
noncomputable def fPr : List (Nat × Int) := [(1, 2), (7, 2), (9, 2), (10, 2), (11, 1), (12, 2), (12, 1), (13, 1), (14, 2), (2, 1), (20, 2), (21, 2), (3, 1), (3, 2), (4, 2), (6, 2), (22, 2), (26, 1), (27, 3), (28, 1), (15, 0), (16, 0), (17, 0), (18, 0), (19, 1), (19, 2), (19, 3), (19, 4), (19, 5), (19, 6), (19, 7), (19, 8)]
noncomputable def fs0 : List (List Int) := fPr.map fun p => [p.1, p.2]
noncomputable def fRow (p : Nat × Int) : D := .tup [.str (tx0.getD p.1 []), .int p.2]
theorem tx0_nd : tx0.Nodup := by
  have : decide tx0.Nodup = true := by kernel_rfl
  exact of_decide_eq_true this
theorem fs0_nd : fs0.Nodup := by
  have : decide fs0.Nodup = true := by kernel_rfl
  exact of_decide_eq_true this
theorem map_ap1 {α β : Type} (f : α → β) (l : List α) (x : α) : (l ++ [x]).map f = l.map f ++ [f x] := List.map_append
variable {CW NW : Nat → CallT} (K : Wk CW NW)
include K
theorem y_atom_new (n : Nat) (row : List D) (tx : List (List Nat)) (fs : List (List Int)) (rest : List AO) (s : List Nat) (h : s ∉ tx) (hl : tx.length ≤ big) : RC (CW (n + 1)) 3 [.ob 1, .d (.str s)] (yst row tx fs rest) (.d (.int tx.length)) (yst row (tx ++ [s]) fs rest) := by
  have hlm : (tx.map D.str).length = tx.length := List.length_map _
  have := c_atom_new K row (tx.map .str) (oS tx) (fs.map fD) (oP fs) rest n s (oS (tx ++ [s])) (oS_none h) (by rw [hlm]; exact oS_put h hl) (by rw [hlm]; exact hl)
  unfold yst
  rw [hlm] at this
  rw [map_ap1]
  exact this
theorem y_atom_old (n : Nat) (row : List D) (tx : List (List Nat)) (fs : List (List Int)) (rest : List AO) (s : List Nat) (i : Nat) (hn : tx.Nodup) (h : tx[i]? = some s) : RC (CW (n + 1)) 3 [.ob 1, .d (.str s)] (yst row tx fs rest) (.d (.int i)) (yst row tx fs rest) :=
  c_atom_old K row (tx.map .str) (oS tx) (fs.map fD) (oP fs) rest n s i (oS_get hn h)
theorem y_functor (n : Nat) (row : List D) (tx : List (List Nat)) (fs : List (List Int)) (rest : List AO) (a r : Int) (hn : fs.Nodup) (hl : fs.length ≤ big) :
    ∃ (f : Nat) (fs' : List (List Int)), RC (CW (n + 1)) 5 [.ob 1, .d (.int a), .d (.int r)] (yst row tx fs rest) (.d (.int f)) (yst row tx fs' rest) ∧ fs'.Nodup ∧ fs'.length ≤ fs.length + 1 ∧ (∃ e, fs' = fs ++ e ∧ ∀ y ∈ e, y = pr a r) ∧ fs'[f]? = some [a, r] ∧ (pr a r ∉ fs → fs' = fs ++ [pr a r]) := by
  by_cases h : pr a r ∈ fs
  · obtain ⟨f, hf⟩ := List.mem_iff_getElem?.mp h
    exact ⟨f, fs, c_functor_old K row (tx.map .str) (oS tx) (fs.map fD) (oP fs) rest n a r f (oP_get hn hf), hn, Nat.le_succ _, ⟨[], (List.append_nil _).symm, fun _ h => (nomatch h)⟩, hf, fun c => absurd h c⟩
  · have hlm : (fs.map fD).length = fs.length := List.length_map _
    have := c_functor_new K row (tx.map .str) (oS tx) (fs.map fD) (oP fs) rest n a r (oP (fs ++ [pr a r])) (oP_none h) (by rw [hlm]; exact oP_put h hl) (by rw [hlm]; exact hl)
    rw [hlm] at this
    refine ⟨fs.length, fs ++ [pr a r], ?_, List.nodup_append.mpr ⟨hn, List.nodup_cons.mpr ⟨List.not_mem_nil, List.nodup_nil⟩, fun x hx y hy e => h (by rw [← List.mem_singleton.mp hy, ← e]; exact hx)⟩, Nat.le_of_eq (ap1 _ _), ⟨_, rfl, fun _ h => List.mem_singleton.mp h⟩, List.getElem?_concat_length, fun _ => rfl⟩
    unfold yst
    rw [map_ap1]
    exact this
theorem c_func (n : Nat) {st st1 st2 : List AO} {s : List Nat} {a r : Int} {v : AV} {fl : List (Nat × AV)} (hi : st[1]? = some (.ins 0 fl)) (h1 : RC (CW (n + 1)) 3 [.ob 1, .d (.str s)] st (.d (.int a)) st1) (h2 : RC (CW (n + 1)) 5 [.ob 1, .d (.int a), .d (.int r)] st1 v st2) : RC (CW (n + 2)) 6 [.ob 1, .d (.str s), .d (.int r)] st v st2 := by
  intro Q q
  refine K.c (fi := fi6) (ir := ir6) rfl rfl rfl ?_
  show (match insOf st (.ob 1) with | some (k, _) => (match mthOf P0 k 2 with | some f => _ | none => False) | none => False)
  have e : insOf st (.ob 1) = some (0, fl) := by
    show (match st[1]? with | some (.ins c fs) => some (c, fs) | _ => none) = _
    rw [hi]
  rw [e]
  show (match insOf st (.ob 1) with | some (k, _) => (match mthOf P0 k 0 with | some f => _ | none => False) | none => False)
  rw [e]
  exact h1 _ (h2 _ q)
theorem c_fixed0 (n : Nat) (st : List AO) : RC (CW (n + 1)) 0 [] st (.d (.tup (tx0.map .str))) st := by
  intro Q q
  refine K.c (fi := fi0) (ir := ir0) rfl rfl rfl ?_
  exact an (by decide) q
theorem c_fixed1 (n : Nat) (st : List AO) : RC (CW (n + 1)) 1 [] st (.d (.tup (fPr.map fRow))) st := by
  intro Q q
  refine K.c (fi := fi1) (ir := ir1) rfl rfl rfl ?_
  iterate 32 refine an bg2 ?_
  exact an (by decide) q
theorem atoms_loop (n : Nat) (row : List D) (p : Pos) (x2 : Option AV) (Q : Fl → Vars → List AO → Prop) : ∀ (l acc : List (List Nat)) (x : Option AV), (acc ++ l).Nodup → acc.length + l.length ≤ big → (∀ y, Q .nx [some (.ob 1), y, x2] (yst row (acc ++ l) [] [])) →
    loopF (.nm 1 p) (fun vs st Q => wpSs P0 (CW (n + 1)) (NW (n + 1)) (forB ir2 4) vs st Q) (l.map .str) [some (.ob 1), x, x2] (yst row acc [] []) Q := by
  intro l
  induction l with
  | nil => intro acc x _ _ q; rw [List.append_nil] at q; exact q x
  | cons s l ih =>
    intro acc x hn hl q
    obtain ⟨h1, h2⟩ := nodup_mid hn
    rw [List.length_cons] at hl
    refine y_atom_new K n row acc [] [] s h1 (lin hl) _ ?_
    refine ih (acc ++ [s]) _ h2 (by rw [ap1]; exact lin hl) ?_
    rw [List.append_assoc]; exact q
theorem funcs_loop (n : Nat) (row : List D) (p : Pos) (x1 : Option AV) (Q : Fl → Vars → List AO → Prop) : ∀ (l acc : List (Nat × Int)) (x : Option AV), ((acc ++ l).map fun p => [(p.1 : Int), p.2]).Nodup → acc.length + l.length ≤ big → l.all (fun p => decide (p.1 < 29)) = true → (∀ y, Q .nx [some (.ob 1), x1, y] (yst row tx0 ((acc ++ l).map fun p => [(p.1 : Int), p.2]) [])) →
    loopF (.nm 2 p) (fun vs st Q => wpSs P0 (CW (n + 2)) (NW (n + 2)) (forB ir2 5) vs st Q) (l.map fRow) [some (.ob 1), x1, x] (yst row tx0 (acc.map fun p => [(p.1 : Int), p.2]) []) Q := by
  intro l
  induction l with
  | nil => intro acc x _ _ _ q; rw [List.append_nil] at q; exact q x
  | cons s l ih =>
    intro acc x hn hl ha q
    rw [List.all_cons, Bool.and_eq_true] at ha
    have hn' := hn
    rw [List.map_append, List.map_cons] at hn'
    obtain ⟨h1, _⟩ := nodup_mid hn'
    rw [List.length_cons] at hl
    have hs : tx0[s.1]? = some (tx0.getD s.1 []) := by
      rw [List.getD_eq_getElem?_getD]
      cases e : tx0[s.1]? with
      | some x => rfl
      | none => exact absurd (List.getElem?_eq_none_iff.mp e) (Nat.not_le.mpr (of_decide_eq_true ha.1))
    obtain ⟨f, fs', e, hn2, _, _, _, e2⟩ := y_functor K n row tx0 (acc.map fun p => [(p.1 : Int), p.2]) [] s.1 s.2 ((List.nodup_append.mp hn').1) (by rw [List.length_map]; exact lin hl)
    have e2 := e2 h1
    subst e2
    refine exI ix0 (exI ix1 ?_)
    refine c_func K n rfl (y_atom_old K n row tx0 _ [] _ s.1 tx0_nd hs) e _ ?_
    have key := ih (acc ++ [s]) (some (.d (fRow s))) (by rw [List.append_assoc]; exact hn) (by rw [ap1]; exact lin hl) ha.2 (by rw [List.append_assoc]; exact q)
    rw [map_ap1] at key
    exact key
theorem c_symbols (n : Nat) (row : List D) {Q : AV → List AO → Prop} (q : Q (.ob 1) (yst row tx0 fs0 [])) : NW (n + 4) 0 [] [.lst row] Q := by
  refine K.n (c := 0) (f := 2) (by decide) rfl ?_
  refine K.c (fi := fi2) (ir := ir2) rfl rfl rfl ?_
  refine ex3 1 0 _ ⟨rfl, rfl, by exact Nat.le_of_ble_eq_true rfl, ?_⟩
  refine ex3 1 0 _ ⟨rfl, rfl, by exact Nat.le_of_ble_eq_true rfl, ?_⟩
  refine ex3 1 0 _ ⟨rfl, rfl, by exact Nat.le_of_ble_eq_true rfl, ?_⟩
  refine ex3 1 0 _ ⟨rfl, rfl, by exact Nat.le_of_ble_eq_true rfl, ?_⟩
  refine c_fixed0 K (n + 1) _ _ ?_
  refine exF (.tup (by decide)) ?_
  refine atoms_loop K (n + 1) row _ _ _ tx0 [] _ tx0_nd (by decide) fun y => ?_
  refine c_fixed1 K (n + 1) _ _ ?_
  refine exF (.tup (by decide)) ?_
  refine funcs_loop K n row _ _ _ fPr [] _ fs0_nd (by decide) (by decide) fun y => ?_
  exact ⟨rfl, q⟩
end Mn
end
section
namespace Mn
abbrev Ent := Int → Option (Int × Kd)
structure TabR (m : Nat) (o : AO) (f : Ent) : Prop where
  c : (o = .d0 ∧ ∀ k, f k = none) ∨ ∃ es, o = .dI es ∧ es.length ≤ m ∧ ∀ k, aget es k = (f k).map tb
noncomputable def updE (f : Ent) (a : Int) (v : Option (Int × Kd)) : Ent := fun k => if a = k then v else f k
theorem aput_get {κ : Type} [DecidableEq κ] (es : List (κ × D)) (a k : κ) (d : D) : aget (aput es a d) k = if a = k then some d else aget es k := by
  induction es with
  | nil => rfl
  | cons p r ih =>
    obtain ⟨x, y⟩ := p
    show aget (if x = a then (x, d) :: r else (x, y) :: aput r a d) k = if a = k then some d else (if x = k then some y else aget r k)
    by_cases c : x = a
    · rw [if_pos c]
      show (if x = k then some d else aget r k) = _
      by_cases e : a = k
      · rw [if_pos e, if_pos (c.trans e)]
      · rw [if_neg e, if_neg (fun h => e (c.symm.trans h)), if_neg (fun h => e (c.symm.trans h))]
    · rw [if_neg c]
      show (if x = k then some y else aget (aput r a d) k) = _
      by_cases e : x = k
      · rw [if_pos e, if_pos e, if_neg (fun h => c (e.trans h.symm))]
      · rw [if_neg e, if_neg e, ih]
theorem aput_len {κ : Type} [DecidableEq κ] (es : List (κ × D)) (a : κ) (d : D) : (aput es a d).length ≤ es.length + 1 := by
  induction es with
  | nil => exact Nat.le_refl _
  | cons p r ih =>
    obtain ⟨x, y⟩ := p
    show (if x = a then (x, d) :: r else (x, y) :: aput r a d).length ≤ _
    by_cases c : x = a
    · rw [if_pos c]; exact Nat.le_succ _
    · rw [if_neg c]; exact Nat.succ_le_succ ih
theorem adel_get {κ : Type} [DecidableEq κ] (es : List (κ × D)) (a k : κ) : aget (adel es a) k = if a = k then none else aget es k := by
  induction es with
  | nil => show none = if a = k then none else none; by_cases e : a = k <;> simp only [e, if_pos, if_neg, if_true, if_false, ite_self]
  | cons p r ih =>
    obtain ⟨x, y⟩ := p
    show aget (List.filter (fun kv => decide (kv.1 ≠ a)) ((x, y) :: r)) k = if a = k then none else (if x = k then some y else aget r k)
    by_cases c : x = a
    · rw [List.filter_cons_of_neg (by simp only [c, ne_eq, not_true, decide_false, Bool.false_eq_true, not_false_iff])]
      refine ih.trans ?_
      by_cases e : a = k
      · rw [if_pos e, if_pos e]
      · rw [if_neg e, if_neg e, if_neg (fun h => e (c.symm.trans h))]
    · rw [List.filter_cons_of_pos (by exact decide_eq_true c)]
      show (if x = k then some y else aget (adel r a) k) = _
      by_cases e : x = k
      · rw [if_pos e, if_pos e, if_neg (fun h => c (e.trans h.symm))]
      · rw [if_neg e, if_neg e, ih]
section
variable {m : Nat} {o : AO} {f : Ent} (T : TabR m o f)
include T
theorem TabR.get (k : Int) : DG o (.int k) ((f k).map tb) := by
  rcases T.c with ⟨rfl, h⟩ | ⟨es, rfl, _, h⟩
  · rw [h]; exact .i0 k
  · rw [← h]; exact .i es k
theorem TabR.put (hm : m ≤ big) (a : Int) (p : Int × Kd) : ∃ o', DS o (.int a) (tb p) o' ∧ TabR (m + 1) o' (updE f a (some p)) := by
  rcases T.c with ⟨rfl, h⟩ | ⟨es, rfl, hl, h⟩
  · refine ⟨_, .i0 a _, ⟨.inr ⟨_, rfl, Nat.le_add_left _ _, fun k => ?_⟩⟩⟩
    show (if a = k then some (tb p) else none) = Option.map tb (if a = k then some p else f k)
    by_cases e : a = k
    · rw [if_pos e, if_pos e]; rfl
    · rw [if_neg e, if_neg e, h]; rfl
  · refine ⟨_, .i a _ (Nat.le_trans hl hm), ⟨.inr ⟨_, rfl, Nat.le_trans (aput_len _ _ _) (Nat.succ_le_succ hl), fun k => ?_⟩⟩⟩
    rw [aput_get]
    show _ = Option.map tb (if a = k then some p else f k)
    by_cases e : a = k
    · rw [if_pos e, if_pos e]; rfl
    · rw [if_neg e, if_neg e, h]
theorem TabR.del (a : Int) (ha : (f a).isSome = true) : ∃ es, o = .dI es ∧ es.length ≤ m ∧ (aget es a).isSome = true ∧ TabR m (.dI (adel es a)) (updE f a none) := by
  rcases T.c with ⟨rfl, h⟩ | ⟨es, rfl, hl, h⟩
  · rw [h] at ha; cases ha
  · refine ⟨es, rfl, hl, by rw [h, Option.isSome_map]; exact ha, ⟨.inr ⟨_, rfl, Nat.le_trans (List.length_filter_le _ _) hl, fun k => ?_⟩⟩⟩
    rw [adel_get]
    show _ = Option.map tb (if a = k then none else f k)
    by_cases e : a = k
    · rw [if_pos e, if_pos e]; rfl
    · rw [if_neg e, if_neg e, h]
theorem TabR.mono {m' : Nat} (h : m ≤ m') : TabR m' o f := by
  rcases T.c with ⟨rfl, e⟩ | ⟨es, rfl, hl, e⟩
  · exact ⟨.inl ⟨rfl, e⟩⟩
  · exact ⟨.inr ⟨es, rfl, Nat.le_trans hl h, e⟩⟩
end
inductive Cl where | pre | inf | post
noncomputable def Kd.cl : Kd → Cl
  | .xfx => .inf | .xfy => .inf | .yfx => .inf | .fy => .pre | .fx => .pre | .yf => .post | .xf => .post
noncomputable def Cl.ix : Cl → Nat | .pre => 7 | .inf => 8 | .post => 9
noncomputable def Cl.s : Cl → List Nat | .pre => sPre | .inf => sInf | .post => sPost
abbrev T3 := Cl → AO
abbrev E3 := Cl → Ent
noncomputable def T3.set (t : T3) (o : AO) (c : Cl) : T3 := fun d => match c, d with
  | .pre, .pre => o
  | .inf, .inf => o
  | .post, .post => o
  | _, d => t d
noncomputable def E3.upd (e : E3) (c : Cl) (a : Int) (v : Option (Int × Kd)) : E3 := fun d => match c, d with
  | .pre, .pre => updE (e .pre) a v
  | .inf, .inf => updE (e .inf) a v
  | .post, .post => updE (e .post) a v
  | _, d => e d
noncomputable def Tb3 (m : Nat) (t : T3) (e : E3) : Prop := ∀ c, TabR m (t c) (e c)
noncomputable def E3.add (e : E3) (h : Int) (k : Kd) (a : Int) : E3 := e.upd k.cl a (if 0 < h then some (h, k) else none)
theorem tb_set {m : Nat} {t : T3} {e : E3} {o : AO} {c : Cl} {a : Int} {v : Option (Int × Kd)} (h : Tb3 m t e) (k : TabR (m + 1) o (updE (e c) a v)) : Tb3 (m + 1) (t.set o c) (e.upd c a v) := by
  intro d
  cases c <;> cases d <;> first | exact k | exact (h _).mono (Nat.le_succ m)
theorem ieS (x : List Nat) (l : List (List Nat)) : IE (.str x) (l.map .str) (l.any (· == x)) := by
  induction l with
  | nil => exact .nil
  | cons y r ih => exact .cons (.flat (.ss y x)) ih
theorem inK {st : List AO} {x : List Nat} {l : List (List Nat)} {v : D} {b : Bool} (h : v = .tup (l.map .str)) (e : l.any (· == x) = b) : CA st .In (.d (.str x)) (.d v) b := by
  subst h; rw [← e]; exact .d (.inT (ieS x l))
structure Nm where
  tx : List (List Nat)
  fs : List (List Int)
noncomputable def bN (row : List D) (s : Nm) (q g : Bool) (t : T3) : Bs := ⟨row, s.tx.map .str, oS s.tx, s.fs.map fD, oP s.fs, t .pre, t .inf, t .post, q, g, [], []⟩
noncomputable def tst (row : List D) (s : Nm) (t : T3) (rest : List AO) : List AO := bst (bN row s false false t) rest
variable {CW NW : Nat → CallT} (K : Wk CW NW)
include K
theorem c_fixity (n : Nat) (k : Kd) (st : List AO) : RC (CW (n + 1)) 18 [.d (.str k.s)] st (.d (.str k.cl.s)) st := by
  intro Q q
  obtain ⟨k1, k2, k3, k4, k5, k6, k7⟩ := kd_codes
  refine K.c (fi := fi18) (ir := ir18) rfl rfl rfl ?_
  have t1 : ∀ b, List.any [Kd.fx.s, Kd.fy.s] (· == k.s) = b → CA st .In (.d (.str k.s)) (.d (.tup [.str (codes "fx"), .str (codes "fy")])) b := fun b e => inK (l := [Kd.fx.s, Kd.fy.s]) (by rw [k4, k5]; rfl) e
  have t2 : ∀ b, List.any [Kd.xfx.s, Kd.xfy.s, Kd.yfx.s] (· == k.s) = b → CA st .In (.d (.str k.s)) (.d (.tup [.str (codes "xfx"), .str (codes "xfy"), .str (codes "yfx")])) b := fun b e => inK (l := [Kd.xfx.s, Kd.xfy.s, Kd.yfx.s]) (by rw [k1, k2, k3]; rfl) e
  have t3 : ∀ b, List.any [Kd.xf.s, Kd.yf.s] (· == k.s) = b → CA st .In (.d (.str k.s)) (.d (.tup [.str (codes "xf"), .str (codes "yf")])) b := fun b e => inK (l := [Kd.xf.s, Kd.yf.s]) (by rw [k6, k7]; rfl) e
  obtain ⟨c1, c2, c3⟩ := cI
  cases k with
  | fx => refine exC (t1 true rfl) ?_; show Q (.d (.str (codes "prefix"))) st; rw [c2]; exact q
  | fy => refine exC (t1 true rfl) ?_; show Q (.d (.str (codes "prefix"))) st; rw [c2]; exact q
  | xfx => refine exC (t1 false rfl) (exC (t2 true rfl) ?_); show Q (.d (.str (codes "infix"))) st; rw [c1]; exact q
  | xfy => refine exC (t1 false rfl) (exC (t2 true rfl) ?_); show Q (.d (.str (codes "infix"))) st; rw [c1]; exact q
  | yfx => refine exC (t1 false rfl) (exC (t2 true rfl) ?_); show Q (.d (.str (codes "infix"))) st; rw [c1]; exact q
  | yf => refine exC (t1 false rfl) (exC (t2 false rfl) (exC (t3 true rfl) ?_)); show Q (.d (.str (codes "postfix"))) st; rw [c3]; exact q
  | xf => refine exC (t1 false rfl) (exC (t2 false rfl) (exC (t3 true rfl) ?_)); show Q (.d (.str (codes "postfix"))) st; rw [c3]; exact q
theorem c_table_of (n : Nat) (b : Bs) (rest : List AO) (k : Kd) : RC (CW (n + 2)) 25 [.ob 6, .d (.str k.s)] (bst b rest) (.ob k.cl.ix) (bst b rest) := by
  intro Q q
  refine K.c (fi := fi25) (ir := ir25) rfl rfl rfl ?_
  refine c_fixity K n k _ _ ?_
  refine exC (eqL cI.2.1) ?_
  cases e : k.cl with
  | pre => rw [e] at q; exact q
  | inf => rw [e] at q; exact exC (eqL cI.1) q
  | post => rw [e] at q; exact exC (eqL cI.1) q
theorem c_add (n : Nat) (row : List D) (s : Nm) (t : T3) (rest : List AO) {m : Nat} {e : E3} (T : Tb3 m t e) (hm : m ≤ big) (k : Kd) (h : Int) (a : Int) :
    ∃ t', Tb3 (m + 1) t' (e.add h k a) ∧ RC (CW (n + 3)) 26 [.ob 6, .d (.int h), .d (.str k.s), .d (.int a)] (tst row s t rest) (.d .non) (tst row s t' rest) := by
  have start : ∀ {Q : AV → List AO → Prop}, wpSs P0 (CW (n + 2)) (NW (n + 2)) (dropB 1 ir26) [some (.ob 6), some (.d (.int h)), some (.d (.str k.s)), some (.d (.int a)), some (.ob k.cl.ix)] (tst row s t rest) (retQ Q) → CW (n + 3) 26 [.ob 6, .d (.int h), .d (.str k.s), .d (.int a)] (tst row s t rest) Q := by
    intro Q H
    refine K.c (fi := fi26) (ir := ir26) rfl rfl rfl ?_
    exact c_table_of K n (bN row s false false t) rest k _ H
  have hi : (tst row s t rest)[k.cl.ix]? = some (t k.cl) := by cases k.cl <;> rfl
  have hset : ∀ o, (tst row s t rest).set k.cl.ix o = tst row s (t.set o k.cl) rest := by intro o; cases k.cl <;> rfl
  unfold E3.add
  by_cases hh : 0 < h
  · obtain ⟨o, ho, hT⟩ := (T k.cl).put hm a (h, k)
    refine ⟨t.set o k.cl, by rw [if_pos hh]; exact tb_set T hT, fun Q q => start ?_⟩
    refine exC (.d (.gt _ _)) (ifT (decide_eq_true hh) (an bg2 ?_))
    refine ⟨k.cl.ix, .int a, tb (h, k), t k.cl, o, rfl, rfl, rfl, hi, ho, ?_⟩
    rw [hset]
    exact q
  · rw [if_neg hh]
    cases hs : (e k.cl a).isSome with
    | false =>
      have he : e k.cl a = none := by cases c : e k.cl a with | none => rfl | some p => rw [c] at hs; cases hs
      refine ⟨t, ?_, fun Q q => start ?_⟩
      · intro d
        have hd := (T d).mono (Nat.le_succ m)
        have eq : updE (e k.cl) a none = e k.cl := by
          funext x
          show (if a = x then none else e k.cl x) = e k.cl x
          by_cases c : a = x
          · rw [if_pos c, ← c, he]
          · rw [if_neg c]
        cases hc : k.cl <;> cases d <;> first | exact hd | (rw [hc] at eq; show TabR _ _ (updE _ a none); rw [eq]; exact hd)
      · refine exC (.d (.gt _ _)) (ifF (fun c => hh (of_decide_eq_true c)) ?_)
        refine exC (.inD hi ((T k.cl).get a)) ?_
        rw [he]; exact q
    | true =>
      obtain ⟨es, e1, e2, e3, hT⟩ := (T k.cl).del a hs
      refine ⟨t.set (.dI (adel es a)) k.cl, tb_set T (hT.mono (Nat.le_succ m)), fun Q q => start ?_⟩
      refine exC (.d (.gt _ _)) (ifF (fun c => hh (of_decide_eq_true c)) ?_)
      refine exC (.inD hi ((T k.cl).get a)) ?_
      refine ifT (by rw [Option.isSome_map]; exact hs) ?_
      refine ⟨k.cl.ix, a, es, rfl, rfl, by rw [hi, e1], Nat.le_trans e2 hm, e3, ?_⟩
      rw [hset]
      exact q
end Mn
end
section
namespace Mn
noncomputable def eC : E3 := E3.add (fun _ _ => none) 1000 .xfy 7
variable {CW NW : Nat → CallT} (K : Wk CW NW)
include K
theorem c_tab (n : Nat) (row : List D) (s : Nm) : ∃ t, Tb3 1 t eC ∧ RC (NW (n + 5)) 1 [.ob 1, .d (.boo false)] (yst row s.tx s.fs []) (.ob 6) (tst row s t []) := by
  obtain ⟨t, T, H⟩ := c_add K n row s (fun _ => .d0) [] (m := 0) (e := fun _ _ => none) (fun c => ⟨.inl ⟨rfl, fun _ => rfl⟩⟩) (by decide) .xfy 1000 7
  refine ⟨t, T, fun Q q => ?_⟩
  refine K.n (c := 1) (f := 20) (by decide) rfl ?_
  refine K.c (fi := fi20) (ir := ir20) rfl rfl rfl ?_
  refine ex3 6 1 _ ⟨rfl, rfl, by exact Nat.le_of_ble_eq_true rfl, ?_⟩
  refine ex3 6 1 _ ⟨rfl, rfl, by exact Nat.le_of_ble_eq_true rfl, ?_⟩
  refine ex3 6 1 _ ⟨rfl, rfl, by exact Nat.le_of_ble_eq_true rfl, ?_⟩
  refine ex3 6 1 _ ⟨rfl, rfl, by exact Nat.le_of_ble_eq_true rfl, ?_⟩
  have e : codes "xfy" = Kd.xfy.s := kd_codes.2.1
  show CW (n + 3) 26 [.ob 6, .d (.int 1000), .d (.str (codes "xfy")), .d (.int 7)] (tst row s (fun _ => .d0) []) _
  rw [e]
  exact H _ ⟨rfl, q⟩
omit K in
theorem set10 {C N : CallT} {b : Bs} {fs : List (Nat × AV)} {rest rest' : List AO} {f : Nat} {x : X} {p0 pt p : Pos} {r : Ss} {vs : Vars} {v : AV} {Q : Fl → Vars → List AO → Prop} (h0 : vs.getD 0 none = some (.ob 10)) (hx : ∀ Q', Q' v (bst b (.ins 2 fs :: rest')) → wpX P0 C N x false vs (bst b (.ins 2 fs :: rest)) Q') (hl : fs.length ≤ 900)
    (k : wpSs P0 C N r vs (bst b (.ins 2 (fput fs f v) :: rest')) Q) : wpSs P0 C N (.cons (.asgA (.loc 0 p0) f x pt p) r) vs (bst b (.ins 2 fs :: rest)) Q := by
  refine hx _ ?_
  show (match vs.getD 0 none with | some (.own l) => _ | some v => _ | none => False)
  rw [h0]
  exact ⟨10, 2, fs, rfl, rfl, hl, k⟩
theorem c_writer (n : Nat) (row : List D) (s : Nm) (t : T3) (qt ig : Bool) : RC (NW (n + 2)) 2 [.ob 1, .ob 6, .d (.boo qt), .d (.boo ig)] (tst row s t []) (.ob 10) (ist (bN row s qt ig t) [] false) := by
  intro Q q
  refine K.n (c := 2) (f := 30) (by decide) rfl ?_
  refine K.c (fi := fi30) (ir := ir30) rfl rfl rfl ?_
  show wpSs P0 (CW n) (NW n) ir30 [some (.ob 10), some (.ob 1), some (.ob 6), some (.d (.boo qt)), some (.d (.boo ig)), some (.d (.boo false)), some (.d .non), none, none] (bst (bN row s qt ig t) [.ins 2 []]) (retQ fun v st' => v = .d .non ∧ Q (.ob 10) st')
  iterate 7 refine set10 rfl (fun _ q => q) (by exact Nat.le_of_ble_eq_true rfl) ?_
  refine exC (.d (.isN _)) ?_
  show wpSs P0 (CW n) (NW n) (dropB 8 ir30) [some (.ob 10), some (.ob 1), some (.ob 6), some (.d (.boo qt)), some (.d (.boo ig)), some (.d (.boo false)), some (.d .non), none, none] (bst (bN row s qt ig t) (.ins 2 [(4, .ob 1), (8, .ob 6), (9, .d (.boo qt)), (10, .d (.boo ig)), (11, .d (.boo false)), (12, .ob 11), (13, .ob 12)] :: [.d0, .d0])) (retQ fun v st' => v = .d .non ∧ Q (.ob 10) st')
  iterate 4 refine set10 rfl (fun _ q => q) (by exact Nat.le_of_ble_eq_true rfl) ?_
  rw [codes1.2.2.2.2]
  exact ⟨rfl, q⟩
noncomputable def AllN (l : List D) : Prop := ∀ d ∈ l, ∃ i, d = .int i
structure Rk (row : List D) : Prop where
  a : AllN row
  l : row.length ≤ 90
theorem c_next (n : Nat) (m : Int) (hm : 0 < m) (row : List D) (hr : Rk row) (rest : List AO) :
    ∃ r row', RC (CW (n + 1)) 48 [.ob 0, .d (.int m)] (.lst row :: rest) (.d (.int r)) (.lst row' :: rest) ∧ 0 ≤ r ∧ r < m ∧ Rk row' := by
  have hb := big_eq
  rcases List.eq_nil_or_concat row with rfl | ⟨l, x, rfl⟩
  · refine ⟨0, [], fun Q q => ?_, by decide, hm, hr⟩
    refine K.c (fi := fi48) (ir := ir48) rfl rfl rfl ?_
    exact exB (.lenO (l := []) rfl (by decide)) (exC (.d (.gt _ _)) q)
  · rw [List.concat_eq_append] at hr ⊢
    obtain ⟨i, rfl⟩ := hr.a x (List.mem_append_right _ List.mem_cons_self)
    have hl := hr.l
    rw [ap1] at hl
    refine ⟨i.fmod m, l, fun Q q => ?_, Int.fmod_nonneg_of_pos _ hm, Int.fmod_lt_of_pos _ hm, fun d hd => hr.a d (List.mem_append_left _ hd), lin hl⟩
    refine K.c (fi := fi48) (ir := ir48) rfl rfl rfl ?_
    refine exB (.lenO (l := l ++ [.int i]) rfl (by rw [ap1]; exact lin (ad (lq hb.symm) hl))) (exC (.d (.gt _ _)) ?_)
    refine ifT (decide_eq_true (by rw [ap1]; omega)) ?_
    refine an (.lst rfl rfl) (exM (.pop (l := l ++ [.int i]) (x := .int i) rfl (by rw [ap1]; exact lin (ad (lq hb.symm) hl)) List.getLast?_concat) ?_)
    refine exO (.mod (by omega)) ?_
    rw [List.dropLast_concat]
    exact q
omit K
theorem row_inner {C N : CallT} {t0 t2 : Option AV} {p : Pos} {Q : Fl → Vars → List AO → Prop} : ∀ (ts acc : List D) (rest : Int) (x4 : Option AV), AllN acc → acc.length + ts.length ≤ 90 →
    (∀ (acc' : List D) (rest' : Int) (y4 : Option AV), Rk acc' → Q .nx [t0, some (.ob 0), t2, some (.d (.int rest')), y4] [.lst acc']) →
    loopF (.nm 4 p) (fun vs st Q => wpSs P0 C N (forB (forB ir47 1) 1) vs st Q) ts [t0, some (.ob 0), t2, some (.d (.int rest)), x4] [.lst acc] Q := by
  intro ts
  induction ts with
  | nil => intro acc rest x4 ha hl q; exact q acc rest x4 ⟨ha, hl⟩
  | cons d ts ih =>
    intro acc rest x4 ha hl q
    rw [List.length_cons] at hl
    have hb := big_eq
    have ha' : AllN (acc ++ [.int (rest.fmod 96)]) := fun d hd => by
      rcases List.mem_append.mp hd with hd | hd
      · exact ha d hd
      · exact ⟨_, List.mem_singleton.mp hd⟩
    have hl' : (acc ++ [D.int (rest.fmod 96)]).length + ts.length ≤ 90 := by rw [ap1]; exact lin hl
    have R : Rk (acc ++ [.int (rest.fmod 96)]) := ⟨ha', lin hl'⟩
    refine an (.lst rfl rfl) (exO (.mod (by decide)) (exM (.append _ rfl (lin (ad hl (lq hb.symm)))) ?_))
    refine exO (.fdiv (by decide)) ?_
    refine exC CD.eqI ?_
    refine ifB (fun e => ?_) (fun e => ?_)
    · rw [e]; exact q _ _ _ R
    · refine exC CD.eqI ?_
      refine ifC (fun e2 => ?_) (fun e2 => ?_)
      · exact q _ _ _ R
      · exact ih _ _ _ ha' hl' q
theorem row_outer {C N : CallT} {t0 : Option AV} {p : Pos} {Q : Fl → Vars → List AO → Prop} : ∀ (l : List Int) (acc : List D) (x2 x3 x4 : Option AV), Rk acc →
    (∀ (acc' : List D) (y2 y3 y4 : Option AV), Rk acc' → Q .nx [t0, some (.ob 0), y2, y3, y4] [.lst acc']) →
    loopF (.nm 2 p) (fun vs st Q => wpSs P0 C N (forB ir47 1) vs st Q) (l.map .int) [t0, some (.ob 0), x2, x3, x4] [.lst acc] Q := by
  intro l
  induction l with
  | nil => intro acc x2 x3 x4 R q; exact q acc x2 x3 x4 R
  | cons i l ih =>
    intro acc x2 x3 x4 R q
    have hb := big_eq
    have hl := R.l
    refine exB (.int i) ?_
    refine exB (.lenO (l := acc) rfl (lin (ad (lq hb.symm) hl))) (exO (.sub _ _) (exB (.min _ _) ?_))
    have hm : ((if (90 : Int) - (acc.length : Int) < 30 then (90 : Int) - (acc.length : Int) else 30)).toNat + acc.length ≤ 90 := by
      by_cases c : (90 : Int) - (acc.length : Int) < 30
      · rw [if_pos c]; omega
      · rw [if_neg c]; show 30 + _ ≤ 90; omega
    refine exF (.range (by
      by_cases c : (90 : Int) - (acc.length : Int) < 30
      · rw [if_pos c]; omega
      · rw [if_neg c]; decide)) ?_
    refine row_inner _ acc i _ R.a ?_ fun acc' rest' y4 R' => ih acc' _ _ _ R' q
    rw [List.length_map, List.length_range]; exact lin hm
include K
theorem c_row (n : Nat) (ns : List Int) (hn : ns.length ≤ 63) {Q : AV → List AO → Prop} (q : ∀ row, Rk row → Q (.ob 0) [.lst row]) : CW (n + 1) 47 [.d (.lst (ns.map .int))] [] Q := by
  refine K.c (fi := fi47) (ir := ir47) rfl rfl rfl ?_
  have hb := big_eq
  refine ⟨_, .lst ⟨by decide, by decide, by rw [List.length_map]; exact lin (ad hn (lq hb.symm))⟩, ?_⟩
  show ∃ l, ItR .over (.d (.lst ((ns.map D.int).take 40))) l ∧ _
  rw [← List.map_take]
  refine exF (.lst (by rw [List.length_map, List.length_take]; omega)) ?_
  refine row_outer (ns.take 40) [] _ _ _ ⟨fun d h => (nomatch h), by decide⟩ fun acc y2 y3 y4 R => ?_
  have hl := R.l
  refine an (.lst rfl rfl) (exM (.reverse rfl (lin (ad (lq hb.symm) hl))) ?_)
  exact q _ ⟨fun d hd => R.a d (List.mem_reverse.mp hd), by rw [List.length_reverse]; exact hl⟩
end Mn
end
section
namespace Mn
noncomputable def wsA : List (List Nat) := ["foo", "my op", "~", "b", "g", "w", "it's"].map codes
noncomputable def wsN : List (List Nat) := tx0 ++ wsA
noncomputable def W5 : List (List Nat) := ["-", "foo", "^", "my op", "~"].map codes
noncomputable def wsF : List (List Nat) := W5 ++ [codes ",", codes "g"]
noncomputable def memB (w : List Nat) (l : List (List Nat)) : Bool := l.any (· == w)
theorem memB_iff {w : List Nat} {l : List (List Nat)} (h : memB w l = true) : w ∈ l := by
  unfold memB at h
  obtain ⟨x, hx, e⟩ := List.any_eq_true.mp h
  rw [← beq_iff_eq.mp e]; exact hx
theorem all_in {l m : List (List Nat)} (h : l.all (memB · m) = true) : ∀ w ∈ l, w ∈ m := fun w hw => memB_iff (List.all_eq_true.mp h w hw)
theorem wsF_N : ∀ w ∈ wsF, w ∈ wsN := all_in (by kernel_rfl)
theorem W5_F : ∀ w ∈ W5, w ∈ wsF := fun w h => List.mem_append_left _ h
theorem W6_F : ∀ w ∈ W5 ++ [codes ","], w ∈ wsF := fun w h => by
  rcases List.mem_append.mp h with h | h
  · exact List.mem_append_left _ h
  · exact List.mem_append_right _ (by rw [List.mem_singleton.mp h]; exact List.mem_cons_self)
noncomputable def okB (w : List Nat) : Bool := decide (w.length ≤ 200) && w.all fun c => decide (32 ≤ c) && decide (c < 127)
theorem okB_Q {w : List Nat} (h : okB w = true) : okQ w := by
  unfold okB at h
  obtain ⟨a, b⟩ := and2 h
  refine ⟨of_decide_eq_true a, fun c hc => ?_⟩
  have := List.all_eq_true.mp b c hc
  obtain ⟨x, y⟩ := and2 this
  exact ⟨of_decide_eq_true x, of_decide_eq_true y⟩
theorem wsN_ok : ∀ w ∈ wsN, okQ w := fun w h => okB_Q (List.all_eq_true.mp (show wsN.all okB = true by kernel_rfl) w h)
theorem wsF_no : ∀ w ∈ wsF, w ≠ [] ∧ w ≠ codes "." ∧ w ≠ codes "{}" ∧ w ≠ codes "|" := fun w h => by
  have := List.all_eq_true.mp (show wsF.all (fun w => !(w == []) && (!(w == codes ".") && (!(w == codes "{}") && !(w == codes "|")))) = true by kernel_rfl) w h
  obtain ⟨a, b⟩ := and2 this
  obtain ⟨b, c⟩ := and2 b
  obtain ⟨c, d⟩ := and2 c
  have no : ∀ {x : List Nat}, (!(w == x)) = true → w ≠ x := fun h e => by rw [e, beq_self_eq_true] at h; exact Bool.false_ne_true h
  exact ⟨no a, no b, no c, no d⟩
structure NmOk (s : Nm) (N : Nat) : Prop where
  nt : s.tx.Nodup
  pt : ∃ e, s.tx = tx0 ++ e
  wt : ∀ w ∈ s.tx, w ∈ wsN
  lt : s.tx.length ≤ N
  nf : s.fs.Nodup
  pf : ∃ e, s.fs = fs0 ++ e
  lf : s.fs.length ≤ N
structure Gr (s s' : Nm) : Prop where
  t : ∃ e, s'.tx = s.tx ++ e
  f : ∃ e, s'.fs = s.fs ++ e
theorem Gr.refl (s : Nm) : Gr s s := ⟨⟨[], (List.append_nil _).symm⟩, ⟨[], (List.append_nil _).symm⟩⟩
theorem Gr.trans {s s' s'' : Nm} (x : Gr s s') (y : Gr s' s'') : Gr s s'' := by
  obtain ⟨⟨a, e⟩, ⟨b, f⟩⟩ := x
  obtain ⟨⟨c, g⟩, ⟨d, h⟩⟩ := y
  exact ⟨⟨a ++ c, by rw [g, e, List.append_assoc]⟩, ⟨b ++ d, by rw [h, f, List.append_assoc]⟩⟩
theorem pre_get {α : Type} {l l' : List α} {i : Nat} {x : α} (h : ∃ e, l' = l ++ e) (hi : l[i]? = some x) : l'[i]? = some x := by
  obtain ⟨e, rfl⟩ := h
  rw [List.getElem?_append_left (List.getElem?_eq_some_iff.mp hi).1]; exact hi
theorem NmOk.mono {s : Nm} {N M : Nat} (h : NmOk s N) (k : N ≤ M) : NmOk s M := ⟨h.nt, h.pt, h.wt, Nat.le_trans h.lt k, h.nf, h.pf, Nat.le_trans h.lf k⟩
theorem nm0 : NmOk ⟨tx0, fs0⟩ 32 := ⟨tx0_nd, ⟨[], (List.append_nil _).symm⟩, fun w h => List.mem_append_left _ h, by decide, fs0_nd, ⟨[], (List.append_nil _).symm⟩, by decide⟩
theorem tx0_at : tx0[1]? = some (codes ".") ∧ tx0[2]? = some (codes "{}") ∧ tx0[8]? = some (codes "|") ∧ tx0[0]? = some (codes "[]") ∧ tx0[7]? = some (codes ",") := by
  refine ⟨?_, ?_, ?_, ?_, ?_⟩ <;> kernel_rfl
theorem fs0_at : fs0[0]? = some [1, 2] ∧ fs0[9]? = some [2, 1] := by
  refine ⟨?_, ?_⟩ <;> kernel_rfl
noncomputable def FnW (s : Nm) (f : Nat) (r : Int) : Prop := ∃ (a : Nat) (w : List Nat), s.fs[f]? = some [(a : Int), r] ∧ s.tx[a]? = some w ∧ w ∈ wsF
theorem FnW.gr {s s' : Nm} {f : Nat} {r : Int} (h : FnW s f r) (g : Gr s s') : FnW s' f r := by
  obtain ⟨a, w, e1, e2, e3⟩ := h
  exact ⟨a, w, pre_get g.f e1, pre_get g.t e2, e3⟩
noncomputable def T.W (s : Nm) : T → Prop
  | .a i => ∃ w, s.tx[i]? = some w ∧ w ≠ []
  | .vr k => k < 8
  | .nu n => -40 ≤ n ∧ n < 56
  | .f1 f x => FnW s f 1 ∧ x.W s
  | .f2 f x y => FnW s f 2 ∧ x.W s ∧ y.W s
  | .cu x => x.W s
  | .dot x y => x.W s ∧ y.W s
theorem T.W.gr {s s' : Nm} (g : Gr s s') (t : T) : t.W s → t.W s' := by
  induction t with
  | a i => intro ⟨w, e, h⟩; exact ⟨w, pre_get g.t e, h⟩
  | vr k => exact id
  | nu n => exact id
  | f1 f x ih => intro h; exact ⟨h.1.gr g, ih h.2⟩
  | f2 f x y i j => intro h; exact ⟨h.1.gr g, i h.2.1, j h.2.2⟩
  | cu x ih => exact ih
  | dot x y i j => intro h; exact ⟨i h.1, j h.2⟩
noncomputable def T.ht : T → Nat
  | .f1 _ x => x.ht + 1
  | .f2 _ x y => max x.ht y.ht + 1
  | .cu x => x.ht + 1
  | .dot x y => max x.ht y.ht + 1
  | _ => 0
noncomputable def gst (row : List D) (s : Nm) (rest : List AO) : List AO := yst row s.tx s.fs rest
section
variable {st : List AO} {x y : Int} {b : Bool}
theorem beT (h : x = y) : (x == y) = true := beq_iff_eq.mpr h
theorem beF (h : x ≠ y) : (x == y) = false := beq_eq_false_iff_ne.mpr h
theorem ceq (h : (x == y) = b) : CA st .Eq (.d (.int x)) (.d (.int y)) b := h ▸ CD.eqI
theorem clt (h : decide (x < y) = b) : CA st .Lt (.d (.int x)) (.d (.int y)) b := h ▸ .d (.lt x y)
theorem cgt (h : decide (y < x) = b) : CA st .Gt (.d (.int x)) (.d (.int y)) b := h ▸ .d (.gt x y)
end
theorem pick {L : List D} {r : Int} (h0 : 0 ≤ r) (hr : r < L.length) (hb : L.length < 4294967296) : ∃ d ∈ L, ∀ st, IdxR st (.d (.lst L)) (.d (.int r)) (.d d) := by
  have hi : r.toNat < L.length := by omega
  refine ⟨L[r.toNat], List.getElem_mem hi, fun st => ?_⟩
  have e : r = (r.toNat : Nat) := by omega
  have := idx_nat (l := L) (i := r.toNat) (List.getElem?_eq_getElem hi) (lin (ad hb hi))
  rw [← e] at this
  exact .lst this
theorem pickS {L : List D} {l : List (List Nat)} (hL : L = l.map .str) {r : Int} (h0 : 0 ≤ r) (hr : r < l.length) (hb : l.length < 4294967296) : ∃ w ∈ l, ∀ st, IdxR st (.d (.lst L)) (.d (.int r)) (.d (.str w)) := by
  subst hL
  obtain ⟨d, hd, h⟩ := pick (L := l.map .str) h0 (by rw [List.length_map]; exact hr) (by rw [List.length_map]; exact hb)
  obtain ⟨w, hw, rfl⟩ := List.mem_map.mp hd
  exact ⟨w, hw, h⟩
variable {CW NW : Nat → CallT} (K : Wk CW NW)
include K
theorem c_atomN (n : Nat) (row : List D) {s : Nm} (rest : List AO) {N : Nat} (h : NmOk s N) (hN : N ≤ big) {w : List Nat} (hw : w ∈ wsN) :
    ∃ (i : Nat) (s' : Nm), RC (CW (n + 1)) 3 [.ob 1, .d (.str w)] (gst row s rest) (.d (.int i)) (gst row s' rest) ∧ NmOk s' (N + 1) ∧ Gr s s' ∧ s'.tx[i]? = some w ∧ s'.fs = s.fs := by
  by_cases c : w ∈ s.tx
  · obtain ⟨i, hi⟩ := List.mem_iff_getElem?.mp c
    exact ⟨i, s, y_atom_old K n row s.tx s.fs rest w i h.nt hi, h.mono (Nat.le_succ _), .refl _, hi, rfl⟩
  · have hl := h.lt
    obtain ⟨e, he⟩ := h.pt
    exact ⟨s.tx.length, ⟨s.tx ++ [w], s.fs⟩, y_atom_new K n row s.tx s.fs rest w c (Nat.le_trans hl hN),
      ⟨List.nodup_append.mpr ⟨h.nt, List.nodup_cons.mpr ⟨List.not_mem_nil, List.nodup_nil⟩, fun x hx y hy e => c (by rw [← List.mem_singleton.mp hy, ← e]; exact hx)⟩,
        ⟨e ++ [w], by show s.tx ++ [w] = _; rw [he, List.append_assoc]⟩, fun x hx => by
          rcases List.mem_append.mp hx with hx | hx
          · exact h.wt x hx
          · rw [List.mem_singleton.mp hx]; exact hw, by show (s.tx ++ [w]).length ≤ _; rw [ap1]; exact lin hl, h.nf, h.pf, Nat.le_succ_of_le h.lf⟩,
      ⟨⟨[w], rfl⟩, [], (List.append_nil _).symm⟩, List.getElem?_concat_length, rfl⟩
theorem c_funcX (n : Nat) (row : List D) {s : Nm} (rest : List AO) {N : Nat} (h : NmOk s N) (hN : N + 1 ≤ big) {w : List Nat} (hw : w ∈ wsF) (r : Int) :
    ∃ (f : Nat) (s' : Nm), RC (CW (n + 2)) 6 [.ob 1, .d (.str w), .d (.int r)] (gst row s rest) (.d (.int f)) (gst row s' rest) ∧ NmOk s' (N + 1) ∧ Gr s s' ∧ ∃ a : Nat, s'.fs[f]? = some [(a : Int), r] ∧ s'.tx[a]? = some w := by
  obtain ⟨i, s1, H1, h1, g1, e1, q1⟩ := c_atomN K n row rest h (lin hN) (wsF_N w hw)
  obtain ⟨f, fs', H2, nd, ln, ex, ef, _⟩ := y_functor K n row s1.tx s1.fs rest i r h1.nf (Nat.le_trans h1.lf hN)
  obtain ⟨e, rfl, _⟩ := ex
  obtain ⟨p, hp⟩ := h1.pf
  have l2 : s.fs.length ≤ N := h.lf
  have l3 : (s1.fs ++ e).length ≤ N + 1 := by rw [q1] at ln ⊢; exact lin (ad ln l2)
  exact ⟨f, ⟨s1.tx, s1.fs ++ e⟩, c_func K n rfl H1 H2, ⟨h1.nt, h1.pt, h1.wt, h1.lt, nd, ⟨p ++ e, by show s1.fs ++ e = _; rw [hp, List.append_assoc]⟩, l3⟩, g1.trans ⟨⟨[], (List.append_nil _).symm⟩, e, rfl⟩, i, ef, e1⟩
theorem c_funcN (n : Nat) (row : List D) {s : Nm} (rest : List AO) {N : Nat} (h : NmOk s N) (hN : N + 1 ≤ big) {w : List Nat} (hw : w ∈ wsF) (r : Int) :
    ∃ (f : Nat) (s' : Nm), RC (CW (n + 2)) 6 [.ob 1, .d (.str w), .d (.int r)] (gst row s rest) (.d (.int f)) (gst row s' rest) ∧ NmOk s' (N + 1) ∧ Gr s s' ∧ FnW s' f r := by
  obtain ⟨f, s', H, h1, g, a, e1, e2⟩ := c_funcX K n row rest h hN hw r
  exact ⟨f, s', H, h1, g, a, w, e1, e2, hw⟩
end Mn
end
section
namespace Mn
theorem W5_c : [D.str (codes "-"), .str (codes "foo"), .str (codes "^"), .str (codes "my op"), .str (codes "~")] = W5.map .str := rfl
structure Sown (CW : CallT) (deep : Nat) (row : List D) (s : Nm) (rest : List AO) (N k : Nat) (t : T) (row' : List D) (s' : Nm) : Prop where
  rc : RC CW 54 [.ob 0, .ob 1, .d (.lst (W5.map .str)), .d (.int deep)] (gst row s rest) (.d t.enc) (gst row' s' rest)
  rk : Rk row'
  nm : NmOk s' (N + k)
  gr : Gr s s'
  w : t.W s'
  sz : t.sz ≤ k
  ht : t.ht ≤ 3 - deep
noncomputable def dropO : List AO → List AO
  | _ :: r => r
  | [] => []
noncomputable def frL (deep : Nat) (way : Int) (x y : Option AV) : Vars := [some (.ob 0), some (.ob 1), some (.d (.lst (W5.map .str))), some (.d (.int deep)), some (.d (.int way)), x, y]
variable {CW NW : Nat → CallT} (K : Wk CW NW)
include K
theorem sown_start (n : Nat) (deep : Nat) (row : List D) (s : Nm) (rest : List AO) (R : Rk row) : ∃ (way : Int) (row' : List D), 0 ≤ way ∧ way < 9 ∧ Rk row' ∧ ∀ {Q : AV → List AO → Prop}, wpSs P0 (CW (n + 1)) (NW (n + 1)) (dropB 1 ir54) (frL deep way none none) (gst row' s rest) (retQ Q) → CW (n + 2) 54 [.ob 0, .ob 1, .d (.lst (W5.map .str)), .d (.int deep)] (gst row s rest) Q := by
  obtain ⟨r, row', H, h0, hm, R'⟩ := c_next K n 9 (by decide) row R (dropO (gst row s rest))
  have b0 : ∀ z : Int, 0 ≤ (r + z).fmod 9 ∧ (r + z).fmod 9 < 9 := fun z => ⟨Int.fmod_nonneg_of_pos _ (by decide), Int.fmod_lt_of_pos _ (by decide)⟩
  by_cases hd : 0 < (deep : Int)
  · refine ⟨(r + 6).fmod 9, row', (b0 6).1, (b0 6).2, R', fun {Q} h => ?_⟩
    refine K.c (fi := fi54) (ir := ir54) rfl rfl rfl ?_
    refine w_asg (v := .d (.int ((r + 6).fmod 9))) (fun Q' q => H _ (exC (cgt (decide_eq_true hd)) (exO (.add _ _) (exO (.mod (by decide)) q)))) (by exact Nat.le_of_ble_eq_true rfl) ?_
    exact h
  · refine ⟨(r + 0).fmod 9, row', (b0 0).1, (b0 0).2, R', fun {Q} h => ?_⟩
    refine K.c (fi := fi54) (ir := ir54) rfl rfl rfl ?_
    refine w_asg (v := .d (.int ((r + 0).fmod 9))) (fun Q' q => H _ (exC (cgt (decide_eq_false hd)) (exO (.add _ _) (exO (.mod (by decide)) q)))) (by exact Nat.le_of_ble_eq_true rfl) ?_
    exact h
theorem sown_leaf (n : Nat) (deep : Nat) (row : List D) {s : Nm} (rest : List AO) {N : Nat} (R : Rk row) (hn : NmOk s N) (hN : N + 1 ≤ big) (way : Int) (hw : deep = 3 ∨ ¬ way < 6) :
    ∃ (t : T) (row' : List D) (s' : Nm), (∀ {Q : AV → List AO → Prop}, Q (.d t.enc) (gst row' s' rest) → wpSs P0 (CW (n + 1)) (NW (n + 1)) (dropB 1 ir54) (frL deep way none none) (gst row s rest) (retQ Q)) ∧ Rk row' ∧ NmOk s' (N + 1) ∧ Gr s s' ∧ t.W s' ∧ t.sz ≤ 1 ∧ t.ht = 0 := by
  have pass : ∀ {st : List AO} {Q : AV → List AO → Prop}, wpSs P0 (CW (n + 1)) (NW (n + 1)) (dropB 2 ir54) (frL deep way none none) st (retQ Q) → wpSs P0 (CW (n + 1)) (NW (n + 1)) (dropB 1 ir54) (frL deep way none none) st (retQ Q) := by
    intro st Q h
    by_cases c : (deep : Int) < 3
    · refine exC (clt (decide_eq_true c)) (exC (clt (decide_eq_false (hw.resolve_left (by omega)))) ?_)
      exact h
    · refine exC (clt (decide_eq_false c)) ?_
      exact h
  by_cases h8 : way = 8
  · obtain ⟨r, row', H, h0, hm, R'⟩ := c_next K n 96 (by decide) row R (dropO (gst row s rest))
    refine ⟨.nu (r - 40), row', s, fun {Q} q => pass ?_, R', hn.mono (Nat.le_succ _), .refl _, ⟨by omega, by omega⟩, Nat.le_refl _, rfl⟩
    refine exC (ceq (beT h8)) ?_
    refine H _ (exO (.sub _ _) (an bg2 ?_))
    rw [cA.2.2.1]
    exact q
  by_cases h7 : way = 7
  · obtain ⟨r, row', H, h0, hm, R'⟩ := c_next K n 7 (by decide) row R (dropO (gst row s rest))
    obtain ⟨w, hw, ix⟩ := pickS (L := W5.map .str ++ [.str (codes "b"), .str (codes "$VAR")]) (l := W5 ++ [codes "b", codes "$VAR"]) rfl h0 hm (by decide)
    have hwN : w ∈ wsN := (all_in (by kernel_rfl) : ∀ w ∈ W5 ++ [codes "b", codes "$VAR"], w ∈ wsN) w hw
    obtain ⟨i, s', H2, hn', g, e, _⟩ := c_atomN K n row' rest hn (lin hN) hwN
    refine ⟨.a i, row', s', fun {Q} q => pass ?_, R', hn', g, ⟨w, e, ?_⟩, Nat.le_refl _, rfl⟩
    · refine exC (ceq (beF h8)) (exC (ceq (beT h7)) ?_)
      refine an bg2 (exO (.addL (by decide)) (H _ (exI (ix _) ?_)))
      refine H2 _ (an bg2 ?_)
      rw [cA.1]
      exact q
    · have := List.all_eq_true.mp (show (W5 ++ [codes "b", codes "$VAR"]).all (fun w => !(w == [])) = true by kernel_rfl) w hw
      intro c
      rw [c] at this
      exact Bool.false_ne_true this
  · obtain ⟨r, row', H, h0, hm, R'⟩ := c_next K n 3 (by decide) row R (dropO (gst row s rest))
    have er : r = (r.toNat : Nat) := by omega
    refine ⟨.vr r.toNat, row', s, fun {Q} q => pass ?_, R', hn.mono (Nat.le_succ _), .refl _, ?_, Nat.le_refl _, rfl⟩
    · refine exC (ceq (beF h8)) (exC (ceq (beF h7)) ?_)
      refine H _ (an bg2 ?_)
      rw [cA.2.1]
      replace q : Q (.d (.tup [.str [118], .int (r.toNat : Nat)])) (gst row' s rest) := q
      rw [← er] at q
      exact q
    · show r.toNat < 8; omega
end Mn
end
section
namespace Mn
noncomputable def thB : Ss → Ss
  | .cons (.iff _ e _ _) _ => e
  | s => s
noncomputable def sownB : Ss := thB (dropB 1 ir54)
variable {CW NW : Nat → CallT} (K : Wk CW NW)
include K
theorem sown_two (n : Nat) (deep : Nat) (row : List D) {s : Nm} (rest : List AO) {N : Nat} (R : Rk row) (hn : NmOk s N) (hN : N + 1 ≤ big) (way : Int) (t1 t2 : T) (w1 : t1.W s) (w2 : t2.W s) :
    ∃ (t : T) (row' : List D) (s' : Nm), (∀ {G : PQ}, (∀ vs, G (.rt (.d t.enc)) vs (gst row' s' rest)) → wpSs P0 (CW (n + 2)) (NW (n + 2)) (dropB 4 sownB) (frL deep way (some (.d t1.enc)) (some (.d t2.enc))) (gst row s rest) G) ∧ Rk row' ∧ NmOk s' (N + 1) ∧ Gr s s' ∧ t.W s' ∧ t.sz ≤ t1.sz + t2.sz + 1 ∧ t.ht ≤ max t1.ht t2.ht + 1 := by
  by_cases h4 : way = 4
  · obtain ⟨r, row', H, h0, hm, R'⟩ := c_next K (n + 1) 2 (by decide) row R (dropO (gst row s rest))
    by_cases hr : r = 0
    · refine ⟨.dot t1 t2, row', s, fun {G} q => ?_, R', hn.mono (Nat.le_succ _), .refl _, ⟨w1, w2⟩, Nat.le_refl _, Nat.le_refl _⟩
      refine exC (ceq (beT h4)) ?_
      refine H _ (exC (ceq (beT hr)) (an bg2 (an bg3 ?_)))
      rw [cA.2.2.2.1]
      exact q _
    · refine ⟨.dot t1 (.a 0), row', s, fun {G} q => ?_, R', hn.mono (Nat.le_succ _), .refl _, ⟨w1, codes "[]", ?_, ?_⟩, ?_, ?_⟩
      · refine exC (ceq (beT h4)) ?_
        refine H _ (exC (ceq (beF hr)) (an bg2 (an bg2 (an bg3 ?_))))
        rw [cA.2.2.2.1, cA.1]
        exact q _
      · exact pre_get hn.pt tx0_at.2.2.2.1
      · exact fun c => by have : (codes "[]" == []) = true := by rw [c]; rfl
                          rw [show (codes "[]" == []) = false by kernel_rfl] at this; exact Bool.false_ne_true this
      · show t1.sz + 1 + 1 ≤ _; have : 1 ≤ t2.sz := (by cases t2 <;> first | exact Nat.le_refl 1 | exact Nat.le_add_left 1 _); exact lin this
      · show max t1.ht 0 + 1 ≤ _; omega
  · obtain ⟨r, row', H, h0, hm, R'⟩ := c_next K (n + 1) 6 (by decide) row R (dropO (gst row s rest))
    obtain ⟨w, hw, ix⟩ := pickS (L := W5.map .str ++ [.str (codes ",")]) (l := W5 ++ [codes ","]) rfl h0 hm (by decide)
    obtain ⟨f, s', H2, hn', g, F⟩ := c_funcN K n row' rest hn hN (W6_F w hw) 2
    refine ⟨.f2 f t1 t2, row', s', fun {G} q => ?_, R', hn', g, ⟨F, T.W.gr g _ w1, T.W.gr g _ w2⟩, Nat.le_refl _, Nat.le_refl _⟩
    refine exC (ceq (beF h4)) ?_
    refine an bg1 (exO (.addL (by decide)) (H _ (exI (ix _) ?_)))
    refine H2 _ (an bg2 (an bg3 ?_))
    rw [cA.2.2.2.1]
    exact q _
noncomputable def cz : Nat → Nat
  | 0 => 1
  | k + 1 => 2 * cz k + 1
theorem c_sown (k : Nat) : ∀ (deep : Nat), deep + k = 3 → ∀ (n : Nat) (row : List D) {s : Nm} (rest : List AO) {N : Nat}, Rk row → NmOk s N → N + cz k ≤ big →
    ∃ t row' s', Sown (CW (n + k + 3)) deep row s rest N (cz k) t row' s' := by
  induction k with
  | zero =>
    intro deep hd n row s rest N R hn hN
    obtain ⟨way, row1, w0, w9, R1, H1⟩ := sown_start K (n + 1) deep row s rest R
    obtain ⟨t, row2, s2, H2, R2, n2, g2, W2, z2, t2⟩ := sown_leaf K (n + 1) deep row1 rest R1 hn hN way (.inl hd)
    exact ⟨t, row2, s2, fun Q q => H1 (H2 q), R2, n2, g2, W2, z2, by rw [t2]; exact Nat.zero_le _⟩
  | succ k ih =>
    intro deep hd n row s rest N R hn hN
    have hp : cz (k + 1) = 2 * cz k + 1 := rfl
    have hd3 : (deep : Int) < 3 := by omega
    obtain ⟨way, row1, w0, w9, R1, H1⟩ := sown_start K (n + k + 2) deep row s rest R
    by_cases h6 : way < 6
    · obtain ⟨t1, row2, s2, S1⟩ := ih (deep + 1) (by omega) n row1 rest R1 hn (lin (ad hN (lq hp.symm)))
      have hz := S1.sz
      have hh := S1.ht
      have first : ∀ {Q : AV → List AO → Prop}, (∀ {G : PQ}, (∀ v vs st, Q v st → G (.rt v) vs st) → wpSs P0 (CW (n + k + 3)) (NW (n + k + 3)) (dropB 1 sownB) (frL deep way (some (.d t1.enc)) none) (gst row2 s2 rest) G) → CW (n + (k + 1) + 3) 54 [.ob 0, .ob 1, .d (.lst (W5.map .str)), .d (.int deep)] (gst row s rest) Q := by
        intro Q h
        refine H1 ?_
        refine exC (clt (decide_eq_true hd3)) (exC (clt (decide_eq_true h6)) ?_)
        refine w_asg (v := .d t1.enc) (fun Q' q => exO (.add _ _) (S1.rc _ q)) (by exact Nat.le_of_ble_eq_true rfl) ?_
        exact h fun v vs st q => q
      by_cases h5 : way = 5
      · refine ⟨.cu t1, row2, s2, fun Q q => first fun {G} hG => ?_, S1.rk, S1.nm.mono (lin (lq hp.symm)), S1.gr, S1.w, by show t1.sz + 1 ≤ _; exact lin (ad (lq hp.symm) hz), by show t1.ht + 1 ≤ _; omega⟩
        refine exC (ceq (beT h5)) (an bg1 (an bg3 ?_))
        rw [cA.2.2.2.1]
        exact hG _ _ _ q
      by_cases h23 : way = 2 ∨ way = 3
      · obtain ⟨r, row3, H3, r0, rm, R3⟩ := c_next K (n + k + 2) 5 (by decide) row2 S1.rk (dropO (gst row2 s2 rest))
        obtain ⟨w, hw, ix⟩ := pickS W5_c r0 rm (by decide)
        obtain ⟨f, s3, H4, n3, g3, F⟩ := c_funcN K (n + k + 1) row3 rest S1.nm (lin (ad hN (lq hp.symm))) (W5_F w hw) 1
        refine ⟨.f1 f t1, row3, s3, fun Q q => first fun {G} hG => ?_, R3, n3.mono (lin (lq hp.symm)), S1.gr.trans g3, ⟨F, T.W.gr g3 _ S1.w⟩, by show t1.sz + 1 ≤ _; exact lin (ad (lq hp.symm) hz), by show t1.ht + 1 ≤ _; omega⟩
        refine exC (ceq (beF h5)) ?_
        have last : wpSs P0 (CW (n + k + 3)) (NW (n + k + 3)) (thB (dropB 2 sownB)) (frL deep way (some (.d t1.enc)) none) (gst row2 s2 rest) (fun fl vs st => match fl with | .nx => wpSs P0 (CW (n + k + 3)) (NW (n + k + 3)) (dropB 3 sownB) vs st G | .bk => G .bk vs st | .ct => G .ct vs st | .rt v => G (.rt v) vs st) := by
          refine H3 _ (exI (ix _) (H4 _ (an bg1 (an bg3 ?_))))
          rw [cA.2.2.2.1]
          exact hG _ _ _ q
        by_cases h2 : way = 2
        · exact exC (ceq (beT h2)) last
        · exact exC (ceq (beF h2)) (exC (ceq (beT (h23.resolve_left h2))) last)
      · obtain ⟨t2, row3, s3, S2⟩ := ih (deep + 1) (by omega) n row2 rest S1.rk S1.nm (lin (ad hN (lq hp.symm)))
        have hz2 := S2.sz
        have hh2 := S2.ht
        obtain ⟨t, row4, s4, H4, R4, n4, g4, W4, z4, t4⟩ := sown_two K (n + k + 1) deep row3 rest S2.rk S2.nm (lin (ad hN (lq hp.symm))) way t1 t2 (T.W.gr S2.gr _ S1.w) S2.w
        refine ⟨t, row4, s4, fun Q q => first fun {G} hG => ?_, R4, n4.mono (lin (lq hp.symm)), (S1.gr.trans S2.gr).trans g4, W4, lin (ad (lq hp.symm) (ad hz (ad hz2 z4))), by omega⟩
        refine exC (ceq (beF h5)) (exC (ceq (beF (fun c => h23 (.inl c)))) (exC (ceq (beF (fun c => h23 (.inr c)))) ?_))
        show wpSs P0 (CW (n + k + 3)) (NW (n + k + 3)) (dropB 3 sownB) (frL deep way (some (.d t1.enc)) none) (gst row2 s2 rest) G
        refine w_asg (v := .d t2.enc) (fun Q' q => exO (.add _ _) (S2.rc _ q)) (by exact Nat.le_of_ble_eq_true rfl) ?_
        exact H4 fun vs => hG _ _ _ q
    · obtain ⟨t, row2, s2, H2, R2, n2, g2, W2, z2, t2⟩ := sown_leaf K (n + k + 2) deep row1 rest R1 hn (lin (ad hN (lq hp.symm))) way (.inr h6)
      exact ⟨t, row2, s2, fun Q q => H1 (H2 q), R2, n2.mono (lin (lq hp.symm)), g2, W2, lin (ad (lq hp.symm) z2), by rw [t2]; exact Nat.zero_le _⟩
end Mn
end
section
namespace Mn
noncomputable def sBe : List Nat := codes "before"
noncomputable def sBt : List Nat := codes "between"
noncomputable def sBh : List Nat := codes "behind"
noncomputable def mD (s : List Nat) (a : Nat) : D := .tup [.str s, .int a]
noncomputable def Nm.fn (s : Nm) (f : Nat) : Nat := ((s.fs.getD f []).headD 0).toNat
noncomputable def T.en (fn : Nat → Nat) : T → List D
  | .a i => [mD sBe i, mD sBt i, mD sBh i]
  | .vr _ => []
  | .nu _ => []
  | .f1 f x => [mD sBe (fn f), mD sBh (fn f)] ++ x.en fn
  | .f2 f x y => [mD sBt (fn f)] ++ x.en fn ++ y.en fn
  | .cu x => [mD sBe (fn 9), mD sBh (fn 9)] ++ x.en fn
  | .dot x y => [mD sBt (fn 0)] ++ x.en fn ++ y.en fn
theorem en_len (fn : Nat → Nat) (t : T) : (t.en fn).length ≤ 3 * t.sz := by
  induction t with
  | a i => exact Nat.le_refl 3
  | vr k => exact Nat.zero_le _
  | nu n => exact Nat.zero_le _
  | f1 f x ih => show ([mD sBe (fn f), mD sBh (fn f)] ++ x.en fn).length ≤ 3 * (x.sz + 1); rw [List.length_append]; show 2 + _ ≤ _; exact lin ih
  | f2 f x y i j => show ([mD sBt (fn f)] ++ x.en fn ++ y.en fn).length ≤ 3 * (x.sz + y.sz + 1); rw [List.length_append, List.length_append]; show 1 + _ + _ ≤ _; exact lin (ad i j)
  | cu x ih => show ([mD sBe (fn 9), mD sBh (fn 9)] ++ x.en fn).length ≤ 3 * (x.sz + 1); rw [List.length_append]; show 2 + _ ≤ _; exact lin ih
  | dot x y i j => show ([mD sBt (fn 0)] ++ x.en fn ++ y.en fn).length ≤ 3 * (x.sz + y.sz + 1); rw [List.length_append, List.length_append]; show 1 + _ + _ ≤ _; exact lin (ad i j)
theorem fn_at {s : Nm} {f a : Nat} {r : Int} (h : s.fs[f]? = some [(a : Int), r]) : s.fn f = a := by
  unfold Nm.fn
  rw [List.getD_eq_getElem?_getD, h]; rfl
theorem fD_at {s : Nm} {f a : Nat} {r : Int} (h : s.fs[f]? = some [(a : Int), r]) : (s.fs.map fD)[f]? = some (.tup [.int a, .int r]) := by
  rw [List.getElem?_map, h]; rfl
variable {CW NW : Nat → CallT} (K : Wk CW NW)
include K
theorem g_name (n : Nat) (row : List D) {s : Nm} (rest : List AO) (f a : Nat) (r : Int) (h : s.fs[f]? = some [(a : Int), r]) (hf : f < 4294967296) : RC (CW (n + 1)) 7 [.ob 1, .d (.int f)] (gst row s rest) (.d (.int a)) (gst row s rest) := by
  intro Q q
  refine K.c (fi := fi7) (ir := ir7) rfl rfl rfl ?_
  exact exI (.ob rfl (idx_nat (fD_at h) hf)) (exI ix0 q)
end Mn
end
section
namespace Mn
variable {CW NW : Nat → CallT} (K : Wk CW NW)
include K
section
variable (n : Nat) (row : List D) {s : Nm} (rest : List AO)
theorem ent_a (i : Nat) (met : List D) (hl : met.length + 3 ≤ big) : RC (CW (n + 2)) 55 [.ob 1, .d (tA i), .d (.lst met)] (gst row s rest) (.d (.lst (met ++ [mD sBe i, mD sBt i, mD sBh i]))) (gst row s rest) := by
  intro Q q
  refine K.c (fi := fi55) (ir := ir55) rfl rfl rfl ?_
  refine exI ix0 (exC (eqL cA.1) ?_)
  refine exI ix1 (an bg2 (exI ix1 (an bg2 (exI ix1 (an bg2 (an bg3 (exO (.addL ?_) ?_)))))))
  · exact hl
  · exact q
theorem ent_n (tg : List Nat) (h1 : (tg == [97]) = false) (h2 : (tg == [115]) = false) (x : D) (met : List D) : RC (CW (n + 2)) 55 [.ob 1, .d (.tup [.str tg, x]), .d (.lst met)] (gst row s rest) (.d (.lst met)) (gst row s rest) := by
  intro Q q
  refine K.c (fi := fi55) (ir := ir55) rfl rfl rfl ?_
  refine exI ix0 (exC (eqL cA.1) ?_)
  rw [h1]
  refine exI ix0 (exC (eqL cA.2.2.2.1) ?_)
  rw [h2]
  exact q
theorem ent_1 (f a : Nat) (r : Int) (h : s.fs[f]? = some [(a : Int), r]) (hf : f < 4294967296) (x : D) (en met : List D) (hl : met.length + 2 ≤ big) (HX : ∀ met : List D, met.length + en.length ≤ big → RC (CW (n + 2)) 55 [.ob 1, .d x, .d (.lst met)] (gst row s rest) (.d (.lst (met ++ en))) (gst row s rest)) (hx : met.length + 2 + en.length ≤ big) :
    RC (CW (n + 3)) 55 [.ob 1, .d (tS f [x]), .d (.lst met)] (gst row s rest) (.d (.lst (met ++ ([mD sBe a, mD sBh a] ++ en)))) (gst row s rest) := by
  intro Q q
  refine K.c (fi := fi55) (ir := ir55) rfl rfl rfl ?_
  refine exI ix0 (exC (eqL cA.1) ?_)
  refine exI ix0 (exC (eqL cA.2.2.2.1) ?_)
  refine exI ix1 (g_name K (n + 1) row rest f a r h hf _ ?_)
  refine exI ix2 (exB (.lenT bg1) (exC CD.eqI ?_))
  refine an bg2 (an bg2 (an bg2 (exO (.addL hl) ?_)))
  refine exI ix2 (exF (.tup bg1) ?_)
  refine HX (met ++ [mD sBe a, mD sBh a]) (by rw [List.length_append]; exact hx) _ ?_
  rw [List.append_assoc]
  exact q
theorem ent_2 (f a : Nat) (r : Int) (h : s.fs[f]? = some [(a : Int), r]) (hf : f < 4294967296) (x y : D) (e1 e2 met : List D) (HX : ∀ met : List D, met.length + e1.length ≤ big → RC (CW (n + 2)) 55 [.ob 1, .d x, .d (.lst met)] (gst row s rest) (.d (.lst (met ++ e1))) (gst row s rest))
    (HY : ∀ met : List D, met.length + e2.length ≤ big → RC (CW (n + 2)) 55 [.ob 1, .d y, .d (.lst met)] (gst row s rest) (.d (.lst (met ++ e2))) (gst row s rest)) (hx : met.length + 1 + e1.length + e2.length ≤ big) :
    RC (CW (n + 3)) 55 [.ob 1, .d (tS f [x, y]), .d (.lst met)] (gst row s rest) (.d (.lst (met ++ ([mD sBt a] ++ e1 ++ e2)))) (gst row s rest) := by
  intro Q q
  rw [List.append_assoc [mD sBt a], ← List.append_assoc met, ← List.append_assoc (met ++ [mD sBt a])] at q
  refine K.c (fi := fi55) (ir := ir55) rfl rfl rfl ?_
  refine exI ix0 (exC (eqL cA.1) ?_)
  refine exI ix0 (exC (eqL cA.2.2.2.1) ?_)
  refine exI ix1 (g_name K (n + 1) row rest f a r h hf _ ?_)
  refine exI ix2 (exB (.lenT bg2) (exC CD.eqI ?_))
  refine an bg2 (an bg1 (exO (.addL (by show met.length + 1 ≤ _; exact lin hx)) ?_))
  refine exI ix2 (exF (.tup bg2) ?_)
  refine HX (met ++ [mD sBt a]) (by rw [ap1]; exact lin hx) _ ?_
  refine HY (met ++ [mD sBt a] ++ e1) (by rw [List.length_append, ap1]; exact lin hx) _ ?_
  exact q
end
theorem c_entries (row : List D) {s : Nm} (rest : List AO) {N : Nat} (hn : NmOk s N) (hN : N ≤ big) (n : Nat) (t : T) : t.W s → ∀ (k : Nat), t.ht ≤ k → ∀ met : List D, met.length + (t.en s.fn).length ≤ big → RC (CW (n + k + 2)) 55 [.ob 1, .d t.enc, .d (.lst met)] (gst row s rest) (.d (.lst (met ++ t.en s.fn))) (gst row s rest) := by
  have hb := big_eq
  have lt : ∀ {f : Nat} {x : List Int}, s.fs[f]? = some x → f < 4294967296 := fun h => by
    have h1 := (List.getElem?_eq_some_iff.mp h).1
    have h2 := hn.lf
    exact lin (ad hN (ad (lq hb) (ad h1 h2)))
  induction t with
  | a i => intro _ k _ met hl; exact ent_a K (n + k) row rest i met hl
  | vr v => intro _ k _ met hl; rw [show met ++ (T.vr v).en s.fn = met from List.append_nil _]; exact ent_n K (n + k) row rest [118] rfl rfl _ met
  | nu v => intro _ k _ met hl; rw [show met ++ (T.nu v).en s.fn = met from List.append_nil _]; exact ent_n K (n + k) row rest [105] rfl rfl _ met
  | f1 f x ih =>
    intro w k hk met hl
    obtain ⟨⟨a, _, e1, _, _⟩, w1⟩ := w
    cases k with
    | zero => exact absurd hk (Nat.not_succ_le_zero _)
    | succ k =>
      replace hl : met.length + ([mD sBe (s.fn f), mD sBh (s.fn f)] ++ x.en s.fn).length ≤ big := hl
      rw [List.length_append] at hl
      replace hl : met.length + (2 + (x.en s.fn).length) ≤ big := hl
      have := ent_1 K (n + k) row rest f a 1 e1 (lt e1) x.enc (x.en s.fn) met (lin hl) (fun met h => ih w1 k (Nat.le_of_succ_le_succ hk) met h) (lin hl)
      rw [← fn_at e1] at this
      exact this
  | f2 f x y i j =>
    intro w k hk met hl
    obtain ⟨⟨a, _, e1, _, _⟩, w1, w2⟩ := w
    cases k with
    | zero => exact absurd hk (Nat.not_succ_le_zero _)
    | succ k =>
      have hk' : max x.ht y.ht ≤ k := Nat.le_of_succ_le_succ hk
      replace hl : met.length + ([mD sBt (s.fn f)] ++ x.en s.fn ++ y.en s.fn).length ≤ big := hl
      rw [List.length_append, List.length_append] at hl
      replace hl : met.length + (1 + (x.en s.fn).length + (y.en s.fn).length) ≤ big := hl
      have := ent_2 K (n + k) row rest f a 2 e1 (lt e1) x.enc y.enc (x.en s.fn) (y.en s.fn) met (fun met h => i w1 k (by omega) met h) (fun met h => j w2 k (by omega) met h) (lin hl)
      rw [← fn_at e1] at this
      exact this
  | cu x ih =>
    intro w k hk met hl
    have e1 : s.fs[9]? = some [((2 : Nat) : Int), 1] := pre_get hn.pf fs0_at.2
    cases k with
    | zero => exact absurd hk (Nat.not_succ_le_zero _)
    | succ k =>
      replace hl : met.length + ([mD sBe (s.fn 9), mD sBh (s.fn 9)] ++ x.en s.fn).length ≤ big := hl
      rw [List.length_append] at hl
      replace hl : met.length + (2 + (x.en s.fn).length) ≤ big := hl
      have := ent_1 K (n + k) row rest 9 2 1 e1 (lt e1) x.enc (x.en s.fn) met (lin hl) (fun met h => ih w k (Nat.le_of_succ_le_succ hk) met h) (lin hl)
      rw [← fn_at e1] at this
      exact this
  | dot x y i j =>
    intro w k hk met hl
    have e1 : s.fs[0]? = some [((1 : Nat) : Int), 2] := pre_get hn.pf fs0_at.1
    cases k with
    | zero => exact absurd hk (Nat.not_succ_le_zero _)
    | succ k =>
      have hk' : max x.ht y.ht ≤ k := Nat.le_of_succ_le_succ hk
      replace hl : met.length + ([mD sBt (s.fn 0)] ++ x.en s.fn ++ y.en s.fn).length ≤ big := hl
      rw [List.length_append, List.length_append] at hl
      replace hl : met.length + (1 + (x.en s.fn).length + (y.en s.fn).length) ≤ big := hl
      have := ent_2 K (n + k) row rest 0 1 2 e1 (lt e1) x.enc y.enc (x.en s.fn) (y.en s.fn) met (fun met h => i w.1 k (by omega) met h) (fun met h => j w.2 k (by omega) met h) (lin hl)
      show RC _ 55 _ _ (.d (.lst (met ++ ([mD sBt (s.fn 0)] ++ x.en s.fn ++ y.en s.fn)))) _
      rw [show s.fn 0 = 1 from fn_at e1]
      exact this
end Mn
end
section
namespace Mn
noncomputable def Pl (o : AO) : Prop := ∀ e, mO e o = o
theorem pl_oS (l : List (List Nat)) : Pl (oS l) := fun e => by cases l <;> rfl
theorem pl_oP (l : List (List Int)) : Pl (oP l) := fun e => by cases l <;> rfl
theorem pl_tab {m : Nat} {o : AO} {f : Ent} (T : TabR m o f) : Pl o := fun e => by
  rcases T.c with ⟨rfl, _⟩ | ⟨es, rfl, _⟩ <;> rfl
theorem tst_map (e : Nat → Nat) (row : List D) (s : Nm) {t : T3} (rest : List AO) (h : ∀ c, Pl (t c)) : (tst row s t rest).map (mO e) =
    .lst row :: .ins 0 (mF e [(0, .ob 2), (1, .ob 3), (2, .ob 4), (3, .ob 5)]) :: .lst (s.tx.map .str) :: oS s.tx :: .lst (s.fs.map fD) :: oP s.fs ::
      .ins 1 (mF e [(4, .ob 1), (5, .ob 7), (6, .ob 8), (7, .ob 9)]) :: t .pre :: t .inf :: t .post :: rest.map (mO e) := by
  show AO.lst row :: .ins 0 (mF e [(0, .ob 2), (1, .ob 3), (2, .ob 4), (3, .ob 5)]) :: .lst (s.tx.map .str) :: mO e (oS s.tx) :: .lst (s.fs.map fD) :: mO e (oP s.fs) ::
      .ins 1 (mF e [(4, .ob 1), (5, .ob 7), (6, .ob 8), (7, .ob 9)]) :: mO e (t .pre) :: mO e (t .inf) :: mO e (t .post) :: rest.map (mO e) = _
  rw [pl_oS, pl_oP, h .pre, h .inf, h .post]
theorem yst_map (e : Nat → Nat) (row : List D) (s : Nm) (rest : List AO) : (yst row s.tx s.fs rest).map (mO e) =
    .lst row :: .ins 0 (mF e [(0, .ob 2), (1, .ob 3), (2, .ob 4), (3, .ob 5)]) :: .lst (s.tx.map .str) :: oS s.tx :: .lst (s.fs.map fD) :: oP s.fs :: rest.map (mO e) := by
  show AO.lst row :: .ins 0 (mF e [(0, .ob 2), (1, .ob 3), (2, .ob 4), (3, .ob 5)]) :: .lst (s.tx.map .str) :: mO e (oS s.tx) :: .lst (s.fs.map fD) :: mO e (oP s.fs) :: rest.map (mO e) = _
  rw [pl_oS, pl_oP]
section
variable {CW NW : Nat → CallT} (K : Wk CW NW) (l : List Nat) (N : Nat) (B : List AO) (hN : N = B.length) (hd : l.Nodup) (hl : ∀ a ∈ l, a < N) {n f : Nat} {vs vs' : List AV} {st st' S S' R : List AO} {v v' : AV}
include K hN hd hl
theorem rc_fr (h : RC (CWN n).1 f vs st v st') (es : st.map (mO (Fr.e ⟨l, N, B⟩)) = S) (es' : st'.map (mO (Fr.e ⟨l, N, B⟩)) = S') (hs : l.map (B[·]?) = S.map some) (hR : place l S' B = R) (hv : mA (Fr.e ⟨l, N, B⟩) v = v') (hvs : vs.map (mA (Fr.e ⟨l, N, B⟩)) = vs') : RC (CW n) f vs' B v' R := by
  subst hN es es' hR hv hvs
  exact rc_frame K l B hd hl h (by rw [hs, List.map_map]; rfl)
theorem rn_fr (h : RC (CWN n).2 f vs st v st') (es : st.map (mO (Fr.e ⟨l, N, B⟩)) = S) (es' : st'.map (mO (Fr.e ⟨l, N, B⟩)) = S') (hs : l.map (B[·]?) = S.map some) (hR : place l S' B = R) (hv : mA (Fr.e ⟨l, N, B⟩) v = v') (hvs : vs.map (mA (Fr.e ⟨l, N, B⟩)) = vs') : RC (NW n) f vs' B v' R := by
  subst hN es es' hR hv hvs
  exact rn_frame K l B hd hl h (by rw [hs, List.map_map]; rfl)
end
noncomputable def ts2 (row : List D) (s : Nm) (t u : T3) (rest : List AO) : List AO := tst row s t (.ins 1 [(4, .ob 1), (5, .ob 11), (6, .ob 12), (7, .ob 13)] :: u .pre :: u .inf :: u .post :: rest)
noncomputable def l2 : List Nat := [0, 1, 2, 3, 4, 5, 10, 11, 12, 13]
noncomputable def pl3 {m : Nat} {t : T3} {e : E3} (T : Tb3 m t e) : ∀ c, Pl (t c) := fun c => pl_tab (T c)
variable {CW NW : Nat → CallT} (K : Wk CW NW)
include K
theorem c_tab2 (n : Nat) (row : List D) (s : Nm) (t : T3) : ∃ u, Tb3 1 u eC ∧ RC (NW (n + 5)) 1 [.ob 1, .d (.boo false)] (tst row s t []) (.ob 10) (ts2 row s t u []) := by
  obtain ⟨u, U, H⟩ := c_tab wkI n row s
  refine ⟨u, U, ?_⟩
  exact rn_fr K [0, 1, 2, 3, 4, 5] 10 (tst row s t []) rfl (by decide) (by decide) H (yst_map _ row s []) (tst_map _ row s [] (pl3 U)) rfl rfl rfl rfl
theorem c_add2 (n : Nat) (row : List D) (s : Nm) (t u : T3) {m : Nat} {e : E3} (U : Tb3 m u e) (hm : m ≤ big) (k : Kd) (h : Int) (a : Int) :
    ∃ u', Tb3 (m + 1) u' (e.add h k a) ∧ RC (CW (n + 3)) 26 [.ob 10, .d (.int h), .d (.str k.s), .d (.int a)] (ts2 row s t u []) (.d .non) (ts2 row s t u' []) := by
  obtain ⟨u', U', H⟩ := c_add wkI n row s u [] U hm k h a
  refine ⟨u', U', ?_⟩
  exact rc_fr K l2 14 (ts2 row s t u []) rfl (by decide) (by decide) H (tst_map _ row s [] (pl3 U)) (tst_map _ row s [] (pl3 U')) rfl rfl rfl rfl
theorem c_isop2 (n : Nat) (row : List D) (s : Nm) (t u : T3) {m : Nat} {e : E3} (U : Tb3 m u e) (a : Int) :
    RC (CW (n + 1)) 24 [.ob 10, .d (.int a)] (ts2 row s t u []) (.d (.boo ((e .pre a).isSome || ((e .inf a).isSome || (e .post a).isSome)))) (ts2 row s t u []) := by
  have H := c_isop wkI n (bN row s false false u) [] (.int a) ((U .pre).get a) ((U .inf).get a) ((U .post).get a)
  rw [Option.isSome_map, Option.isSome_map, Option.isSome_map] at H
  exact rc_fr K l2 14 (ts2 row s t u []) rfl (by decide) (by decide) H (tst_map _ row s [] (pl3 U)) (tst_map _ row s [] (pl3 U)) rfl rfl rfl rfl
noncomputable def wrO (qt ig : Bool) (t a o w : Nat) (last : List Nat) (pf : Bool) : AO := .ins 2 [(4, .ob 1), (8, .ob t), (9, .d (.boo qt)), (10, .d (.boo ig)), (11, .d (.boo false)), (12, .ob (a + 1)), (13, .ob (a + 2)), (14, .ob o), (15, .d (.str last)), (16, .d (.boo pf)), (17, .ob w)]
theorem c_wr1 (n : Nat) (row : List D) (s : Nm) (t u : T3) {m : Nat} {e : E3} (U : Tb3 m t e) (qt ig : Bool) :
    RC (NW (n + 2)) 2 [.ob 1, .ob 6, .d (.boo qt), .d (.boo ig)] (ts2 row s t u []) (.ob 14) (ts2 row s t u [wrO qt ig 6 14 17 18 [] false, .d0, .d0, .lst [], .lst []]) := by
  have H := c_writer wkI n row s t qt ig
  exact rn_fr K [0, 1, 2, 3, 4, 5, 6, 7, 8, 9] 14 (ts2 row s t u []) rfl (by decide) (by decide) H (tst_map _ row s [] (pl3 U)) (tst_map _ row s _ (pl3 U)) rfl rfl rfl rfl
theorem c_wr2 (n : Nat) (row : List D) (s : Nm) (t u : T3) {m : Nat} {e : E3} (U : Tb3 m u e) (qt ig : Bool) (W : AO) :
    RC (NW (n + 2)) 2 [.ob 1, .ob 10, .d (.boo qt), .d (.boo ig)] (ts2 row s t u [W, .d0, .d0, .lst [], .lst []]) (.ob 19) (ts2 row s t u [W, .d0, .d0, .lst [], .lst [], wrO qt ig 10 19 22 23 [] false, .d0, .d0, .lst [], .lst []]) := by
  have H := c_writer wkI n row s u qt ig
  exact rn_fr K l2 19 (ts2 row s t u [W, .d0, .d0, .lst [], .lst []]) rfl (by decide) (by decide) H (tst_map _ row s [] (pl3 U)) (tst_map _ row s _ (pl3 U)) rfl rfl rfl rfl
end Mn
end
section
namespace Mn
noncomputable def numB (k : Nat) : Bool := decide ((codes (toString (k : Int))).length ≤ 100) && !(codes (toString (k : Int))).isEmpty
theorem num_all : (List.range 64).all numB = true := by kernel_rfl
theorem num_k {k : Nat} (h : k < 64) : (codes (toString (k : Int))).length ≤ 100 ∧ codes (toString (k : Int)) ≠ [] := by
  have := List.all_eq_true.mp num_all k (List.mem_range.mpr h)
  obtain ⟨a, b⟩ := and2 this
  exact ⟨of_decide_eq_true a, fun c => by rw [c] at b; exact Bool.false_ne_true b⟩
noncomputable def cxN (s : Nm) (e : E3) (qt ig : Bool) : Cx := ⟨fun i => wtx qt (s.tx.getD i []), s.fn, fun i => e .pre i, fun i => e .inf i, fun i => e .post i, ig⟩
noncomputable def gA (s : Nm) (i : Nat) : Prop := ∃ w, s.tx[i]? = some w ∧ w ≠ []
noncomputable def gF (s : Nm) (f : Nat) : Prop := f ≠ 0 ∧ ∃ (a : Nat) (r : Int), s.fs[f]? = some [(a : Int), r] ∧ gA s a
theorem quoted_len (w : List Nat) : (quotedN w).length ≤ 2 * w.length + 2 := by
  unfold quotedN
  have := esc_len w
  rw [List.length_flatten, List.cons_append, List.map_cons, List.map_append, List.sum_cons, List.sum_append]
  show 1 + (((w.map escN).map (fun x => x.length)).sum + (1 + 0)) ≤ _
  exact lin this
theorem wtx_ok {q : Bool} {w : List Nat} (h : okQ w) (hn : w ≠ []) : wtx q w ≠ [] ∧ (wtx q w).length ≤ 1000 := by
  unfold wtx
  have h1 := h.1
  by_cases c : (q && !plainN w) = true
  · rw [if_pos c]
    refine ⟨fun d => ?_, by have := quoted_len w; exact lin (ad h1 (ad h1 this))⟩
    unfold quotedN at d
    rw [List.cons_append, List.flatten_cons] at d
    exact List.cons_ne_nil _ _ d
  · rw [if_neg c]; exact ⟨hn, lin h1⟩
section
variable {s : Nm} {N : Nat} (hn : NmOk s N) (hN : N ≤ 100000)
include hn hN
theorem okN {row : List D} {m : Nat} {t : T3} {e : E3} (T : Tb3 m t e) (qt ig : Bool) : Ok (cxN s e qt ig) (bN row s qt ig t) (gA s) (gF s) := by
  refine ⟨fun i hi => ?_, fun f hf => ?_, fun i => (T .pre).get i, fun i => (T .inf).get i, fun i => (T .post).get i, rfl⟩
  · obtain ⟨w, e1, e2⟩ := hi
    have hw := wsN_ok w (hn.wt w (List.mem_of_getElem? e1))
    have e3 : s.tx.getD i [] = w := by rw [List.getD_eq_getElem?_getD, e1]; rfl
    have hl := (List.getElem?_eq_some_iff.mp e1).1
    have h2 := hn.lt
    refine ⟨⟨w, by show (s.tx.map D.str)[i]? = _; rw [List.getElem?_map, e1]; rfl, by show wtx qt (s.tx.getD i []) = _; rw [e3]; rfl, hw⟩, ?_, lin (ad hN (ad hl h2))⟩
    have e4 : (cxN s e qt ig).tx i = wtx qt w := congrArg (wtx qt) e3
    rw [e4]
    exact Wt.mk' (wtx_ok hw e2).1 (wtx_ok hw e2).2
  · obtain ⟨h0, a, r, e1, ha⟩ := hf
    have hl := (List.getElem?_eq_some_iff.mp e1).1
    have h2 := hn.lf
    have e2 : (cxN s e qt ig).fn f = a := fn_at e1
    rw [e2]
    exact ⟨⟨.int r, fD_at e1⟩, lin (ad hN (ad hl h2)), h0, ha⟩
omit hN in
theorem fnw_ok {f : Nat} {r : Int} (h : FnW s f r) : (gF s f ∧ f ≠ 9) ∧ s.fn f ≠ 8 := by
  obtain ⟨a, w, e1, e2, e3⟩ := h
  obtain ⟨n1, n2, n3, n4⟩ := wsF_no w e3
  have z0 : s.fs[0]? = some [1, 2] := pre_get hn.pf fs0_at.1
  have z9 : s.fs[9]? = some [2, 1] := pre_get hn.pf fs0_at.2
  refine ⟨⟨⟨fun c => ?_, a, r, e1, w, e2, n1⟩, fun c => ?_⟩, fun c => ?_⟩
  · subst c
    rw [z0] at e1
    have ea : (1 : Int) = a := (List.cons.inj (Option.some.inj e1)).1
    have : a = 1 := by omega
    subst this
    have := pre_get hn.pt tx0_at.1
    rw [this] at e2
    exact n2 (Option.some.inj e2).symm
  · subst c
    rw [z9] at e1
    have ea : (2 : Int) = a := (List.cons.inj (Option.some.inj e1)).1
    have : a = 2 := by omega
    subst this
    have := pre_get hn.pt tx0_at.2.1
    rw [this] at e2
    exact n3 (Option.some.inj e2).symm
  · rw [fn_at e1] at c
    subst c
    have := pre_get hn.pt tx0_at.2.2.1
    rw [this] at e2
    exact n4 (Option.some.inj e2).symm
omit hN in
theorem wf_of {e : E3} {qt ig : Bool} (t : T) : t.W s → t.wf (cxN s e qt ig) (gA s) (gF s) := by
  induction t with
  | a i => exact id
  | vr k => intro h; exact ⟨Nat.lt_trans h (by decide), (num_k (Nat.lt_trans h (by decide))).1⟩
  | nu v =>
    intro h
    have h1 : -40 ≤ v := h.1
    have h2 : v < 56 := h.2
    have := num_k (k := v.natAbs) (by omega)
    exact ⟨by omega, this.1, this.2⟩
  | f1 f x ih => intro h; exact ⟨(fnw_ok hn h.1).1, ih h.2⟩
  | f2 f x y i j => intro h; exact ⟨(fnw_ok hn h.1).1, (fnw_ok hn h.1).2, i h.2.1, j h.2.2⟩
  | cu x ih =>
    intro h
    refine ⟨⟨by decide, 2, 1, pre_get hn.pf fs0_at.2, codes "{}", pre_get hn.pt tx0_at.2.1, fun c => ?_⟩, ih h⟩
    have : (codes "{}" == []) = true := by rw [c]; rfl
    rw [show (codes "{}" == []) = false by kernel_rfl] at this
    exact Bool.false_ne_true this
  | dot x y i j => intro h; exact ⟨i h.1, j h.2⟩
end
noncomputable def txN (s : Nm) (e : E3) (qt ig : Bool) (t : T) (m : Int) : List Nat := flat (rn (cxN s e qt ig) t false (decide (1201 ≤ m)) m ([], [], false)).1
variable {CW NW : Nat → CallT} (K : Wk CW NW)
include K
section
variable {s : Nm} {N : Nat} (hn : NmOk s N) (hN : N ≤ 100000) (t : T) (hw : t.W s) (hz : t.sz ≤ 2000)
include hn hN hw hz
theorem c_tx1 (n : Nat) (row : List D) {p u : T3} {m : Nat} {e : E3} (P : Tb3 m p e) (qt ig : Bool) (most : Int) (W : List AO) :
    ∃ W1, RC (CW (n + 9)) 31 [.ob 14, .d t.enc, .d (.int most)] (ts2 row s p u [wrO qt ig 6 14 17 18 [] false, .d0, .d0, .lst [], .lst [], wrO qt ig 10 19 22 23 [] false, .d0, .d0, .lst [], .lst []]) (.d (.str (txN s e qt ig t most)))
      (ts2 row s p u ([W1, .d0, .d0, .lst [], .lst [], wrO qt ig 10 19 22 23 [] false, .d0, .d0, .lst [], .lst [], .lst (rn (cxN s e qt ig) t false (decide (1201 ≤ most)) most ([], [], false)).1, .lst []])) := by
  have H := c_text wkI (okN (row := row) hn hN P qt ig) n t (wf_of hn t hw) hz most [] false
  unfold txN
  generalize rn (cxN s e qt ig) t false (decide (1201 ≤ most)) most ([], [], false) = z at H ⊢
  refine ⟨_, rc_fr K [0, 1, 2, 3, 4, 5, 6, 7, 8, 9, 14, 15, 16, 17, 18] 24 _ rfl (by decide) (by decide) H (tst_map _ row s _ (pl3 P)) (tst_map _ row s _ (pl3 P)) rfl rfl rfl rfl⟩
theorem c_tx2 (n : Nat) (row : List D) {p u : T3} {m : Nat} {e : E3} (U : Tb3 m u e) (qt ig : Bool) (most : Int) (W1 : AO) (out : List D) :
    ∃ R, RC (CW (n + 9)) 31 [.ob 19, .d t.enc, .d (.int most)] (ts2 row s p u ([W1, .d0, .d0, .lst [], .lst [], wrO qt ig 10 19 22 23 [] false, .d0, .d0, .lst [], .lst [], .lst out, .lst []])) (.d (.str (txN s e qt ig t most))) R := by
  have H := c_text wkI (okN (row := row) hn hN U qt ig) n t (wf_of hn t hw) hz most [] false
  unfold txN
  generalize rn (cxN s e qt ig) t false (decide (1201 ≤ most)) most ([], [], false) = z at H ⊢
  exact ⟨_, rc_fr K [0, 1, 2, 3, 4, 5, 10, 11, 12, 13, 19, 20, 21, 22, 23] 26 _ rfl (by decide) (by decide) H (tst_map _ row s _ (pl3 U)) (tst_map _ row s _ (pl3 U)) rfl rfl rfl rfl⟩
end
end Mn
end
section
namespace Mn
noncomputable def Cl.sd : Cl → List Nat | .pre => sBe | .inf => sBt | .post => sBh
noncomputable def mP (p : Cl × Nat) : D := mD p.1.sd p.2
noncomputable def T.ep (fn : Nat → Nat) : T → List (Cl × Nat)
  | .a i => [(.pre, i), (.inf, i), (.post, i)]
  | .vr _ => []
  | .nu _ => []
  | .f1 f x => [(.pre, fn f), (.post, fn f)] ++ x.ep fn
  | .f2 f x y => [(.inf, fn f)] ++ x.ep fn ++ y.ep fn
  | .cu x => [(.pre, fn 9), (.post, fn 9)] ++ x.ep fn
  | .dot x y => [(.inf, fn 0)] ++ x.ep fn ++ y.ep fn
theorem en_ep (fn : Nat → Nat) (t : T) : t.en fn = (t.ep fn).map mP := by
  induction t with
  | a i => rfl
  | vr k => rfl
  | nu k => rfl
  | f1 f x ih => show _ ++ x.en fn = ([(Cl.pre, fn f), (.post, fn f)] ++ x.ep fn).map mP; rw [List.map_append, ih]; rfl
  | f2 f x y i j => show _ ++ x.en fn ++ y.en fn = ([(Cl.inf, fn f)] ++ x.ep fn ++ y.ep fn).map mP; rw [List.map_append, List.map_append, i, j]; rfl
  | cu x ih => show _ ++ x.en fn = ([(Cl.pre, fn 9), (.post, fn 9)] ++ x.ep fn).map mP; rw [List.map_append, ih]; rfl
  | dot x y i j => show _ ++ x.en fn ++ y.en fn = ([(Cl.inf, fn 0)] ++ x.ep fn ++ y.ep fn).map mP; rw [List.map_append, List.map_append, i, j]; rfl
theorem ep_post (fn : Nat → Nat) (a : Nat) (t : T) : (Cl.pre, a) ∈ t.ep fn → (Cl.post, a) ∈ t.ep fn := by
  have two : ∀ {x : Nat} {l : List (Cl × Nat)}, ((Cl.pre, a) ∈ l → (Cl.post, a) ∈ l) → (Cl.pre, a) ∈ [(Cl.pre, x), (.post, x)] ++ l → (Cl.post, a) ∈ [(Cl.pre, x), (.post, x)] ++ l := by
    intro x l ih h
    rcases List.mem_append.mp h with h | h
    · rcases List.mem_cons.mp h with h | h
      · cases h; exact List.mem_append_left _ (List.mem_cons_of_mem _ List.mem_cons_self)
      · cases List.mem_singleton.mp h
    · exact List.mem_append_right _ (ih h)
  have one : ∀ {x : Nat} {l m : List (Cl × Nat)}, ((Cl.pre, a) ∈ l → (Cl.post, a) ∈ l) → ((Cl.pre, a) ∈ m → (Cl.post, a) ∈ m) → (Cl.pre, a) ∈ [(Cl.inf, x)] ++ l ++ m → (Cl.post, a) ∈ [(Cl.inf, x)] ++ l ++ m := by
    intro x l m i j h
    rcases List.mem_append.mp h with h | h
    · rcases List.mem_append.mp h with h | h
      · cases List.mem_singleton.mp h
      · exact List.mem_append_left _ (List.mem_append_right _ (i h))
    · exact List.mem_append_right _ (j h)
  induction t with
  | a i =>
    intro h
    rcases List.mem_cons.mp h with h | h
    · cases h; exact List.mem_cons_of_mem _ (List.mem_cons_of_mem _ List.mem_cons_self)
    · rcases List.mem_cons.mp h with h | h
      · cases h
      · cases List.mem_singleton.mp h
  | vr k => intro h; exact nomatch h
  | nu k => intro h; exact nomatch h
  | f1 f x ih => exact two ih
  | f2 f x y i j => exact one i j
  | cu x ih => exact two ih
  | dot x y i j => exact one i j
theorem ep_gr {s s' : Nm} {N : Nat} (hn : NmOk s N) (g : Gr s s') (t : T) : t.W s → t.ep s'.fn = t.ep s.fn := by
  have key : ∀ {f : Nat} {a : Nat} {r : Int}, s.fs[f]? = some [(a : Int), r] → s'.fn f = s.fn f := fun h => (fn_at (pre_get g.f h)).trans (fn_at h).symm
  have k0 := key (f := 0) (a := 1) (r := 2) (pre_get hn.pf fs0_at.1)
  have k9 := key (f := 9) (a := 2) (r := 1) (pre_get hn.pf fs0_at.2)
  induction t with
  | a i => intro _; rfl
  | vr k => intro _; rfl
  | nu k => intro _; rfl
  | f1 f x ih =>
    intro ⟨⟨a, w, e1, _⟩, h⟩
    show [(Cl.pre, s'.fn f), (.post, s'.fn f)] ++ x.ep s'.fn = [(Cl.pre, s.fn f), (.post, s.fn f)] ++ x.ep s.fn
    rw [ih h, key e1]
  | f2 f x y i j =>
    intro ⟨⟨a, w, e1, _⟩, h1, h2⟩
    show [(Cl.inf, s'.fn f)] ++ x.ep s'.fn ++ y.ep s'.fn = [(Cl.inf, s.fn f)] ++ x.ep s.fn ++ y.ep s.fn
    rw [i h1, j h2, key e1]
  | cu x ih =>
    intro h
    show [(Cl.pre, s'.fn 9), (.post, s'.fn 9)] ++ x.ep s'.fn = [(Cl.pre, s.fn 9), (.post, s.fn 9)] ++ x.ep s.fn
    rw [ih h, k9]
  | dot x y i j =>
    intro h
    show [(Cl.inf, s'.fn 0)] ++ x.ep s'.fn ++ y.ep s'.fn = [(Cl.inf, s.fn 0)] ++ x.ep s.fn ++ y.ep s.fn
    rw [i h.1, j h.2, k0]
noncomputable def Agr (l : List (Cl × Nat)) (e1 e2 : E3) : Prop := ∀ (c : Cl) (a : Nat), (c, a) ∈ l → e1 c a = e2 c a
theorem agr_add {l : List (Cl × Nat)} {e1 e2 : E3} (A : Agr l e1 e2) (h : Int) (k : Kd) (a : Nat) (hno : (k.cl, a) ∉ l) : Agr l e1 (e2.add h k a) := by
  intro c x hx
  rw [A c x hx]
  have hne : ¬ (k.cl = c ∧ a = x) := fun ⟨p, q⟩ => hno (by rw [p, q]; exact hx)
  unfold E3.add
  generalize (if 0 < h then some (h, k) else none) = v
  have off : ∀ f : Ent, a ≠ x → updE f a v (x : Int) = f x := fun f hh => if_neg (fun c : (a : Int) = x => hh (by omega))
  cases e : k.cl <;> cases c <;> first | rfl | (exact (off _ (fun hh => hne ⟨e, hh⟩)).symm)
section
variable {s : Nm} {e1 e2 : E3} {qt ig : Bool}
theorem sh_agr (t : T) (h : Agr (t.ep s.fn) e1 e2) : t.shape (cxN s e1 qt ig) = t.shape (cxN s e2 qt ig) := by
  cases t with
  | f1 f x =>
    have h1 : e1 .pre (s.fn f) = e2 .pre (s.fn f) := h .pre _ (List.mem_append_left _ List.mem_cons_self)
    have h2 : e1 .post (s.fn f) = e2 .post (s.fn f) := h .post _ (List.mem_append_left _ (List.mem_cons_of_mem _ List.mem_cons_self))
    show (if ig = true then none else (match e1 .pre (s.fn f) with
      | some p => if (s.fn f == 3 && x.nn) = true then none else some (0, p)
      | none => (match e1 .post (s.fn f) with | some p => some (2, p) | none => none))) = (if ig = true then none else (match e2 .pre (s.fn f) with
      | some p => if (s.fn f == 3 && x.nn) = true then none else some (0, p)
      | none => (match e2 .post (s.fn f) with | some p => some (2, p) | none => none)))
    rw [h1, h2]
  | f2 f x y =>
    have h1 : e1 .inf (s.fn f) = e2 .inf (s.fn f) := h .inf _ (List.mem_append_left _ (List.mem_append_left _ List.mem_cons_self))
    show (if ig = true then none else (match e1 .inf (s.fn f) with | some p => some (1, p) | none => none)) = (if ig = true then none else (match e2 .inf (s.fn f) with | some p => some (1, p) | none => none))
    rw [h1]
  | _ => rfl
theorem ll_agr (t : T) (h : Agr (t.ep s.fn) e1 e2) : t.ll (cxN s e1 qt ig) = t.ll (cxN s e2 qt ig) := by
  unfold T.ll
  rw [sh_agr t h]
theorem rn_agr (t : T) : Agr (t.ep s.fn) e1 e2 → rn (cxN s e1 qt ig) t = rn (cxN s e2 qt ig) t := by
  induction t with
  | a i =>
    intro h
    funext tl al m S
    have h1 : e1 .pre i = e2 .pre i := h .pre _ List.mem_cons_self
    have h2 : e1 .inf i = e2 .inf i := h .inf _ (List.mem_cons_of_mem _ List.mem_cons_self)
    have h3 : e1 .post i = e2 .post i := h .post _ (List.mem_cons_of_mem _ (List.mem_cons_of_mem _ List.mem_cons_self))
    show (if (tl && i == 0) = true then S.raw [93] else ((S.tb tl).at (!(al || tl) && ((e1 .pre i).isSome || ((e1 .inf i).isSome || (e1 .post i).isSome))) (wtx qt (s.tx.getD i []))).te tl) = (if (tl && i == 0) = true then S.raw [93] else ((S.tb tl).at (!(al || tl) && ((e2 .pre i).isSome || ((e2 .inf i).isSome || (e2 .post i).isSome))) (wtx qt (s.tx.getD i []))).te tl)
    rw [h1, h2, h3]
  | vr k => intro _; rfl
  | nu k => intro _; rfl
  | f1 f x ih =>
    intro h
    have hx : Agr (x.ep s.fn) e1 e2 := fun c a ha => h c a (List.mem_append_right _ ha)
    have e := sh_agr (qt := qt) (ig := ig) (.f1 f x) h
    have e2 := ll_agr (qt := qt) (ig := ig) x hx
    have e3 := ih hx
    funext tl al m S
    unfold rn
    rw [e, e2, e3]
    rfl
  | f2 f x y i j =>
    intro h
    have hx : Agr (x.ep s.fn) e1 e2 := fun c a ha => h c a (List.mem_append_left _ (List.mem_append_right _ ha))
    have hy : Agr (y.ep s.fn) e1 e2 := fun c a ha => h c a (List.mem_append_right _ ha)
    have e := sh_agr (qt := qt) (ig := ig) (.f2 f x y) h
    have e2 := ll_agr (qt := qt) (ig := ig) x hx
    have e3 := i hx
    have e4 := j hy
    funext tl al m S
    unfold rn
    rw [e, e2, e3, e4]
    rfl
  | cu x ih =>
    intro h
    have e3 := ih (fun c a ha => h c a (List.mem_append_right _ ha))
    funext tl al m S
    unfold rn
    rw [e3]
    rfl
  | dot x y i j =>
    intro h
    have e3 := i (fun c a ha => h c a (List.mem_append_left _ (List.mem_append_right _ ha)))
    have e4 := j (fun c a ha => h c a (List.mem_append_right _ ha))
    funext tl al m S
    unfold rn
    rw [e3, e4]
theorem tx_agr (t : T) (h : Agr (t.ep s.fn) e1 e2) (m : Int) : txN s e1 qt ig t m = txN s e2 qt ig t m := by
  unfold txN
  rw [rn_agr t h]
end
end Mn
end
section
namespace Mn
noncomputable def KL : List D := [.str (codes "yfx"), .str (codes "fy"), .str (codes "xfy"), .str (codes "xfx"), .str (codes "fx"), .str (codes "xf"), .str (codes "yf")]
theorem KL_kd : ∀ d ∈ KL, ∃ k : Kd, d = .str k.s := by
  obtain ⟨k1, k2, k3, k4, k5, k6, k7⟩ := kd_codes
  unfold KL
  rw [k1, k2, k3, k4, k5, k6, k7]
  intro d hd
  simp only [List.mem_cons, List.not_mem_nil, or_false] at hd
  rcases hd with h | h | h | h | h | h | h
  · exact ⟨.yfx, h⟩
  · exact ⟨.fy, h⟩
  · exact ⟨.xfy, h⟩
  · exact ⟨.xfx, h⟩
  · exact ⟨.fx, h⟩
  · exact ⟨.xf, h⟩
  · exact ⟨.yf, h⟩
noncomputable def inB (p : Cl × Nat) (l : List (Cl × Nat)) : Bool := l.any fun q => (q.1.sd == p.1.sd) && (((q.2 : Int) == (p.2 : Int)) && true)
theorem ie_met (p : Cl × Nat) (l : List (Cl × Nat)) : IE (mP p) (l.map mP) (inB p l) := by
  induction l with
  | nil => exact .nil
  | cons q r ih => exact .cons (.tup (.cc (.ss _ _) (.cc (.ii _ _) .nn))) ih
theorem in_yes {p : Cl × Nat} {l : List (Cl × Nat)} (h : p ∈ l) : inB p l = true :=
  List.any_eq_true.mpr ⟨p, h, by rw [beq_self_eq_true, beq_self_eq_true]; rfl⟩
theorem sd_inj {c d : Cl} (h : (c.sd == d.sd) = true) : c = d := by
  have n1 : (sBe == sBt) = false := by kernel_rfl
  have n2 : (sBe == sBh) = false := by kernel_rfl
  have n3 : (sBt == sBe) = false := by kernel_rfl
  have n4 : (sBt == sBh) = false := by kernel_rfl
  have n5 : (sBh == sBe) = false := by kernel_rfl
  have n6 : (sBh == sBt) = false := by kernel_rfl
  cases c <;> cases d <;> first | rfl | exact absurd (n1.symm.trans h) Bool.false_ne_true | exact absurd (n2.symm.trans h) Bool.false_ne_true | exact absurd (n3.symm.trans h) Bool.false_ne_true | exact absurd (n4.symm.trans h) Bool.false_ne_true | exact absurd (n5.symm.trans h) Bool.false_ne_true | exact absurd (n6.symm.trans h) Bool.false_ne_true
theorem in_mem {p : Cl × Nat} {l : List (Cl × Nat)} (h : inB p l = true) : p ∈ l := by
  obtain ⟨q, hq, e⟩ := List.any_eq_true.mp h
  obtain ⟨a, b⟩ := and2 e
  obtain ⟨b, _⟩ := and2 b
  have e1 := sd_inj a
  have e2 : (q.2 : Int) = p.2 := beq_iff_eq.mp b
  have : q = p := Prod.ext e1 (by omega)
  exact this ▸ hq
variable {CW NW : Nat → CallT} (K : Wk CW NW)
include K
theorem c_side (n : Nat) (k : Kd) (st : List AO) : RC (CW (n + 1)) 53 [.d (.str k.s)] st (.d (.str k.cl.sd)) st := by
  intro Q q
  have cf : codes "f" = [102] := by kernel_rfl
  refine K.c (fi := fi53) (ir := ir53) rfl rfl rfl ?_
  cases k with
  | fy => exact exI ixS (exC (eqL cf) q)
  | fx => exact exI ixS (exC (eqL cf) q)
  | xfx => exact exI ixS (exC (eqL cf) (exI (.str (c := 120) (by decide) rfl) (exC (eqL cf) q)))
  | xfy => exact exI ixS (exC (eqL cf) (exI (.str (c := 121) (by decide) rfl) (exC (eqL cf) q)))
  | yfx => exact exI ixS (exC (eqL cf) (exI (.str (c := 120) (by decide) rfl) (exC (eqL cf) q)))
  | yf => exact exI ixS (exC (eqL cf) (exI (.str (c := 102) (by decide) rfl) (exC (eqL cf) q)))
  | xf => exact exI ixS (exC (eqL cf) (exI (.str (c := 102) (by decide) rfl) (exC (eqL cf) q)))
end Mn
end
section
namespace Mn
structure FA where
  sc : AV
  qt : Bool
  ig : Bool
  most : Int
noncomputable def fL (A : FA) (x10 x11 x12 x13 : Option AV) (r : Vars) : Vars := some A.sc :: some (.ob 0) :: some (.ob 1) :: some (.d (.boo A.qt)) :: some (.d (.boo A.ig)) :: some (.d (.int A.most)) :: some (.d (.lst (W5.map .str))) :: some (.d (.lst KL)) :: some (.ob 6) :: some (.ob 10) :: x10 :: x11 :: x12 :: x13 :: r
noncomputable def dropB6 (l : List AO) : List AO := l.drop 6
noncomputable def r0 : Vars := [none, none, none, none, none]
structure LI (N m : Nat) (row : List D) (s : Nm) (t u : T3) (e1 e2 : E3) : Prop where
  rk : Rk row
  nm : NmOk s N
  t : Tb3 m t e1
  u : Tb3 m u e2
theorem hts (L : List Int) {r : Int} (h0 : 0 ≤ r) (hr : r < L.length) (hb : L.length < 4294967296) : ∃ h : Int, ∀ st, IdxR st (.d (.lst (L.map .int))) (.d (.int r)) (.d (.int h)) := by
  obtain ⟨d, hd, ix⟩ := pick (L := L.map .int) h0 (by rw [List.length_map]; exact hr) (by rw [List.length_map]; exact hb)
  obtain ⟨h, _, rfl⟩ := List.mem_map.mp hd
  exact ⟨h, ix⟩
variable {CW NW : Nat → CallT} (K : Wk CW NW)
include K
theorem loop1 (n : Nat) (A : FA) (p : Pos) (G : PQ) : ∀ (l : List D), AllN l → ∀ {N m : Nat} {row : List D} {s : Nm} {t u : T3} {e : E3} (x10 x11 x12 x13 : Option AV), LI N m row s t u e e → N + l.length ≤ 1000 → m + l.length ≤ 1000 →
    (∀ (row : List D) (s : Nm) (t u : T3) (e : E3) (y10 y11 y12 y13 : Option AV), LI (N + l.length) (m + l.length) row s t u e e → G .nx (fL A y10 y11 y12 y13 r0) (ts2 row s t u [])) →
    loopF (.nm 10 p) (fun vs st Q => wpSs P0 (CW (n + 4)) (NW (n + 4)) (forB irL 9) vs st Q) l (fL A x10 x11 x12 x13 r0) (ts2 row s t u []) G := by
  intro l
  induction l with
  | nil => intro _ N m row s t u e x10 x11 x12 x13 I _ _ q; exact q _ _ _ _ _ _ _ _ _ I
  | cons d l ih =>
    intro ha N m row s t u e x10 x11 x12 x13 I hN hm q
    obtain ⟨i, rfl⟩ := ha d List.mem_cons_self
    rw [List.length_cons] at hN hm q
    have hb := big_eq
    obtain ⟨ra, row1, H1, a0, am, R1⟩ := c_next K (n + 3) 7 (by decide) row I.rk (dropO (ts2 row s t u []))
    obtain ⟨d1, hd1, ix1⟩ := pick (L := KL) a0 am (by decide)
    obtain ⟨k, rfl⟩ := KL_kd d1 hd1
    obtain ⟨rb, row2, H2, b0, bm, R2⟩ := c_next K (n + 3) 5 (by decide) row1 R1 (dropO (ts2 row s t u []))
    obtain ⟨h, ix2⟩ := hts [500, 200, 1000, 1200, 1] b0 bm (by decide)
    obtain ⟨rc, row3, H3, c0, cm, R3⟩ := c_next K (n + 3) 5 (by decide) row2 R2 (dropO (ts2 row s t u []))
    obtain ⟨w, hw, ix3⟩ := pickS (L := W5.map .str) (l := W5) rfl (r := (i + rc).fmod 5) (Int.fmod_nonneg_of_pos _ (by decide)) (Int.fmod_lt_of_pos _ (by decide)) (by decide)
    obtain ⟨a, s', H4, n4, g4, e4, _⟩ := c_atomN K (n + 3) row3 (dropB6 (ts2 row s t u [])) I.nm (lin (ad hN (lq hb.symm))) (wsF_N w (W5_F w hw))
    obtain ⟨t', T', H5⟩ := c_add K (n + 1) row3 s' t (.ins 1 [(4, .ob 1), (5, .ob 11), (6, .ob 12), (7, .ob 13)] :: u .pre :: u .inf :: u .post :: []) I.t (lin (ad hm (lq hb.symm))) k h a
    obtain ⟨u', U', H6⟩ := c_add2 K (n + 1) row3 s' t' u I.u (lin (ad hm (lq hb.symm))) k h a
    refine w_asg (v := .d (.str k.s)) (fun Q' q => H1 _ (exI (ix1 _) q)) (by exact Nat.le_of_ble_eq_true rfl) ?_
    refine w_asg (v := .d (.int h)) (fun Q' q => an (by decide) (H2 _ (exI (ix2 _) q))) (by exact Nat.le_of_ble_eq_true rfl) ?_
    refine w_asg (v := .d (.int a)) (fun Q' q => H3 _ (exO (.add _ _) (exO (.mod (by decide)) (exI (ix3 _) (H4 _ q))))) (by exact Nat.le_of_ble_eq_true rfl) ?_
    refine H5 _ ?_
    refine H6 _ ?_
    refine ih (fun d hd => ha d (List.mem_cons_of_mem _ hd)) (N := N + 1) (m := m + 1) _ _ _ _ ⟨R3, n4, T', U'⟩ (lin hN) (lin hm) fun row s t u e y10 y11 y12 y13 I' => q row s t u e y10 y11 y12 y13 ?_
    rw [Nat.add_right_comm N, Nat.add_assoc N, Nat.add_right_comm m, Nat.add_assoc m] at I'
    exact I'
end Mn
end
section
namespace Mn
noncomputable def CW10 : List (List Nat) := W5 ++ [codes ",", codes "b", codes "$VAR", codes "{}", codes "g"]
theorem CW_N : ∀ w ∈ CW10, w ∈ wsN := all_in (by kernel_rfl)
noncomputable def r2 (t : D) (l : List (Cl × Nat)) (x17 x18 : Option AV) : Vars := [some (.d t), some (.d (.lst (l.map mP))), some (.d (.lst (CW10.map .str))), x17, x18]
variable {CW NW : Nat → CallT} (K : Wk CW NW)
include K
theorem loop2 (n : Nat) (A : FA) (p : Pos) (G : PQ) (tm : D) (L : List (Cl × Nat)) (e1 : E3) : ∀ (l : List D), AllN l → ∀ {N m : Nat} {row : List D} {s : Nm} {t u : T3} {e2 : E3} (x10 x11 x12 x13 : Option AV), LI N m row s t u e1 e2 → Agr L e1 e2 → N + l.length ≤ 2000 → m + l.length ≤ 2000 →
    (∀ (row : List D) (s' : Nm) (u : T3) (e2 : E3) (y10 y11 y12 y13 : Option AV), LI (N + l.length) (m + l.length) row s' t u e1 e2 → Agr L e1 e2 → Gr s s' → G .nx (fL A y10 y11 y12 y13 (r2 tm L none none)) (ts2 row s' t u [])) →
    loopF (.nm 10 p) (fun vs st Q => wpSs P0 (CW (n + 4)) (NW (n + 4)) (forB irL 13) vs st Q) l (fL A x10 x11 x12 x13 (r2 tm L none none)) (ts2 row s t u []) G := by
  intro l
  induction l with
  | nil => intro _ N m row s t u e2 x10 x11 x12 x13 I Ag _ _ q; exact q _ _ _ _ _ _ _ _ I Ag (.refl _)
  | cons d l ih =>
    intro ha N m row s t u e2 x10 x11 x12 x13 I Ag hN hm q
    obtain ⟨i, rfl⟩ := ha d List.mem_cons_self
    rw [List.length_cons] at hN hm q
    have hb := big_eq
    obtain ⟨ra, row1, H1, a0, am, R1⟩ := c_next K (n + 3) 10 (by decide) row I.rk (dropO (ts2 row s t u []))
    obtain ⟨w, hw, ix1⟩ := pickS (L := CW10.map .str) (l := CW10) rfl a0 am (by decide)
    obtain ⟨a, s', H2, n2, g2, _, _⟩ := c_atomN K (n + 3) row1 (dropB6 (ts2 row s t u [])) I.nm (lin (ad hN (lq hb.symm))) (CW_N w hw)
    obtain ⟨rb, row2, H3, b0, bm, R2⟩ := c_next K (n + 3) 7 (by decide) row1 R1 (dropO (ts2 row s' t u []))
    obtain ⟨d1, hd1, ix2⟩ := pick (L := KL) b0 bm (by decide)
    obtain ⟨k, rfl⟩ := KL_kd d1 hd1
    obtain ⟨rc, row3, H4, c0, cm, R3⟩ := c_next K (n + 3) 4 (by decide) row2 R2 (dropO (ts2 row s' t u []))
    obtain ⟨h, ix3⟩ := hts [1200, 500, 0, 1] c0 cm (by decide)
    obtain ⟨u', U', H5⟩ := c_add2 K (n + 1) row3 s' t u I.u (lin (ad hm (lq hb.symm))) k h a
    have next : ∀ {u2 : T3} {e3 : E3} (y10 y11 y12 y13 : Option AV), Tb3 (m + 1) u2 e3 → Agr L e1 e3 → loopF (.nm 10 p) (fun vs st Q => wpSs P0 (CW (n + 4)) (NW (n + 4)) (forB irL 13) vs st Q) l (fL A y10 y11 y12 y13 (r2 tm L none none)) (ts2 row3 s' t u2 []) G := by
      intro u2 e3 y10 y11 y12 y13 U2 A2
      refine ih (fun d hd => ha d (List.mem_cons_of_mem _ hd)) (N := N + 1) (m := m + 1) y10 y11 y12 y13 ⟨R3, n2, fun c => (I.t c).mono (Nat.le_succ _), U2⟩ A2 (lin hN) (lin hm) fun row s'' u e2 y10 y11 y12 y13 I' A' g' => q row s'' u e2 y10 y11 y12 y13 ?_ A' (g2.trans g')
      rw [Nat.add_right_comm N, Nat.add_assoc N, Nat.add_right_comm m, Nat.add_assoc m] at I'
      exact I'
    refine w_asg (v := .d (.int a)) (fun Q' q => H1 _ (exI (ix1 _) (H2 _ q))) (by exact Nat.le_of_ble_eq_true rfl) ?_
    refine w_asg (v := .d (.str k.s)) (fun Q' q => H3 _ (exI (ix2 _) q)) (by exact Nat.le_of_ble_eq_true rfl) ?_
    refine w_asg (v := .d (.int h)) (fun Q' q => an (by decide) (H4 _ (exI (ix3 _) q))) (by exact Nat.le_of_ble_eq_true rfl) ?_
    refine c_side K (n + 3) k _ _ (an bg2 ?_)
    refine exC (.d (.niL (ie_met (k.cl, a) L))) ?_
    refine ifC (fun c => ?_) fun c => ?_
    · refine H5 _ ?_
      refine next _ _ _ _ U' (agr_add Ag h k a fun hin => ?_)
      rw [in_yes hin] at c
      exact Bool.false_ne_true c
    · exact next _ _ _ _ (fun c => (I.u c).mono (Nat.le_succ _)) Ag
theorem cmp_names (n : Nat) (row : List D) (t u : T3) {W : List (List Nat)} (hW : ∀ w ∈ W, w ∈ wsN) (ids : List (Option Nat)) : ∀ (acc : List D) {N : Nat} {s : Nm}, (∀ d ∈ acc, ∃ a : Nat, d = .int a) → NmOk s N → N + W.length ≤ 3000 →
    ∃ (ys : List D) (s' : Nm), (∀ d ∈ ys, ∃ a : Nat, d = .int a) ∧ ys.length = acc.length + W.length ∧ NmOk s' (N + W.length) ∧ Gr s s' ∧ ∀ {Q : List D → List AO → Prop} {e : E0} {P : D → List AO → (AV → List AO → Prop) → Prop}, (∀ d st Q, CW (n + 1) 3 [.ob 1, .d d] st Q → (∃ fs, st[1]? = some (.ins 0 fs)) → P d st Q) → Q ys (ts2 row s' t u []) → compW P (W.map .str) acc (ts2 row s t u []) Q := by
  induction W with
  | nil => intro acc N s ha hn hN; exact ⟨acc, s, ha, rfl, hn, .refl _, fun {Q e P} hP q => q⟩
  | cons w W ih =>
    intro acc N s ha hn hN
    rw [List.length_cons] at hN
    have hb := big_eq
    obtain ⟨a, s1, H, n1, g1, _, _⟩ := c_atomN K n row (dropB6 (ts2 row s t u [])) hn (lin (ad hN (lq hb.symm))) (hW w List.mem_cons_self)
    obtain ⟨ys, s', hy, hl, n2, g2, k⟩ := ih (fun w h => hW w (List.mem_cons_of_mem _ h)) (acc ++ [.int a]) (fun d hd => by
      rcases List.mem_append.mp hd with hd | hd
      · exact ha d hd
      · exact ⟨a, List.mem_singleton.mp hd⟩) n1 (lin hN)
    refine ⟨ys, s', hy, by rw [hl, ap1, List.length_cons]; omega, by rw [Nat.add_right_comm, Nat.add_assoc] at n2; exact n2, g1.trans g2, fun {Q e P} hP q => ?_⟩
    refine hP _ _ _ (H _ ?_) ⟨_, rfl⟩
    exact k (e := e) hP q
theorem loop3 (n : Nat) (A : FA) (p : Pos) (G : PQ) (tm : D) {L : List (Cl × Nat)} (hL : ∀ a, (Cl.pre, a) ∈ L → (Cl.post, a) ∈ L) {row : List D} {s : Nm} {t u : T3} {m : Nat} {e1 e2 : E3} (T1 : Tb3 m t e1) (U : Tb3 m u e2) (Ag : Agr L e1 e2) (x10 x11 x12 : Option AV) : ∀ (l : List D), (∀ d ∈ l, ∃ a : Nat, d = .int a) → ∀ (x13 : Option AV),
    (∀ (y13 : Option AV), G .nx (fL A x10 x11 x12 y13 (r2 tm L none none)) (ts2 row s t u [])) →
    loopF (.nm 13 p) (fun vs st Q => wpSs P0 (CW (n + 1)) (NW (n + 1)) (forB irL 14) vs st Q) l (fL A x10 x11 x12 x13 (r2 tm L none none)) (ts2 row s t u []) G := by
  intro l
  induction l with
  | nil => intro _ x13 q; exact q x13
  | cons d l ih =>
    intro ha x13 q
    obtain ⟨a, rfl⟩ := ha d List.mem_cons_self
    have next := ih (fun d hd => ha d (List.mem_cons_of_mem _ hd)) (some (.d (.int a))) q
    refine an bg2 (exC (.d (.inL (ie_met (.pre, a) L))) ?_)
    refine ifB (fun c => ?_) fun c => ?_
    · rw [c]; exact next
    · refine an bg2 (exC (.d (.inL (ie_met (.inf, a) L))) ?_)
      refine ifB (fun c2 => ?_) fun c2 => ?_
      · rw [c2]; exact next
      · have m1 := in_mem c
        have m2 := in_mem c2
        have a1 : e1 .pre (a : Int) = e2 .pre a := Ag .pre a m1
        have a2 : e1 .inf (a : Int) = e2 .inf a := Ag .inf a m2
        have a3 : e1 .post (a : Int) = e2 .post a := Ag .post a (hL a m1)
        have H1 := c_isop K n (bN row s false false t) (.ins 1 [(4, .ob 1), (5, .ob 11), (6, .ob 12), (7, .ob 13)] :: u .pre :: u .inf :: u .post :: []) (.int a) ((T1 .pre).get a) ((T1 .inf).get a) ((T1 .post).get a)
        have H2 := c_isop2 K n row s t u U a
        rw [Option.isSome_map, Option.isSome_map, Option.isSome_map, a1, a2, a3] at H1
        generalize ((e2 .pre (a : Int)).isSome || ((e2 .inf (a : Int)).isSome || (e2 .post (a : Int)).isSome)) = z at H1 H2
        refine H1 _ (H2 _ ?_)
        refine exC (b := false) (.d ?_) next
        have := CD.ne (TE.flat (FE.bb z z))
        rw [beq_self_eq_true] at this
        exact this
end Mn
end
section
namespace Mn
theorem rng (k : Int) : AllN ((List.range k.toNat).map fun i => D.int (Int.ofNat i)) := fun d hd => by
  obtain ⟨i, _, rfl⟩ := List.mem_map.mp hd
  exact ⟨_, rfl⟩
theorem rng_len (k : Int) : ((List.range k.toNat).map fun i => D.int (Int.ofNat i)).length = k.toNat := by rw [List.length_map, List.length_range]
variable {CW NW : Nat → CallT} (K : Wk CW NW)
include K
theorem law_end (n : Nat) (A : FA) (t0 : T) {N m : Nat} {row : List D} {s : Nm} {t u : T3} {e1 e2 : E3} (I : LI N m row s t u e1 e2) (hN : N ≤ 2000) (hw : t0.W s) (hz : t0.sz ≤ 2000) (Ag : Agr (t0.ep s.fn) e1 e2) (x10 x11 x12 x13 : Option AV) :
    wpSs P0 (CW (n + 9)) (NW (n + 9)) (dropB 14 irL) (fL A x10 x11 x12 x13 (r2 t0.enc (t0.ep s.fn) none none)) (ts2 row s t u []) fun fl _ _ => fl = .rt (.d (.boo true)) := by
  have hb := big_eq
  obtain ⟨ys, s', hy, hl, n2, g2, k⟩ := cmp_names K (n + 8) row t u CW_N [] [] (fun _ h => (nomatch h)) I.nm (by show N + 10 ≤ _; exact lin hN)
  have hL : ∀ a, (Cl.pre, a) ∈ t0.ep s.fn → (Cl.post, a) ∈ t0.ep s.fn := fun a => ep_post s.fn a t0
  have n3 : NmOk s' (N + 10) := n2
  have hw' : t0.W s' := T.W.gr g2 _ hw
  have HW1 := c_wr1 K (n + 7) row s' t u I.t A.qt A.ig
  have HW2 := c_wr2 K (n + 7) row s' t u I.u A.qt A.ig (wrO A.qt A.ig 6 14 17 18 [] false)
  obtain ⟨W1, HX1⟩ := c_tx1 K n3 (lin hN) t0 hw' hz n row (u := u) I.t A.qt A.ig A.most []
  obtain ⟨R, HX2⟩ := c_tx2 K n3 (lin hN) t0 hw' hz n row (p := t) I.u A.qt A.ig A.most W1 (rn (cxN s' e1 A.qt A.ig) t0 false (decide (1201 ≤ A.most)) A.most ([], [], false)).1
  refine ⟨[.ob 1], rfl, CW10.map .str, .lst (by decide), by decide, k (e := .met 2 "" 0 ⟨0,0,0,0⟩ ⟨0,0,0,0⟩ ⟨0,0,0,0⟩ ⟨0,0,0,0⟩) (fun d st Q h hi => ?_) ?_⟩
  · obtain ⟨fs, hi⟩ := hi
    have e : insOf st (.ob 1) = some (0, fs) := by
      show (match st[1]? with | some (.ins c fs) => some (c, fs) | _ => none) = _
      rw [hi]
    show (match insOf st (.ob 1) with | some (k, _) => (match mthOf P0 k 0 with | some f => _ | none => False) | none => False)
    rw [e]
    exact h
  · refine exF (.lst (by rw [hl]; decide)) ?_
    refine loop3 K (n + 8) A _ _ t0.enc hL I.t I.u Ag x10 x11 x12 ys hy x13 fun y13 => ?_
    show wpSs P0 (CW (n + 9)) (NW (n + 9)) (dropB 15 irL) (fL A x10 x11 x12 y13 (r2 t0.enc (t0.ep s.fn) none none)) (ts2 row s' t u []) fun fl _ _ => fl = .rt (.d (.boo true))
    refine w_asg (v := .ob 14) (fun Q' q => HW1 _ q) (by exact Nat.le_of_ble_eq_true rfl) ?_
    refine w_asg (v := .ob 19) (fun Q' q => HW2 _ q) (by exact Nat.le_of_ble_eq_true rfl) ?_
    refine HX1 _ (HX2 _ ?_)
    have e : txN s' e1 A.qt A.ig t0 A.most = txN s' e2 A.qt A.ig t0 A.most := tx_agr t0 (by rw [ep_gr I.nm g2 t0 hw]; exact Ag) _
    rw [e]
    refine exC (b := true) ?_ rfl
    have := CD.eqS (st := R) (x := txN s' e2 A.qt A.ig t0 A.most) (y := txN s' e2 A.qt A.ig t0 A.most)
    rw [beq_self_eq_true] at this
    exact this
end Mn
end
section
namespace Mn
variable {CW NW : Nat → CallT} (K : Wk CW NW)
include K
theorem law_mid (n : Nat) (A : FA) {N m : Nat} {row : List D} {s : Nm} {t u : T3} {e : E3} (I : LI N m row s t u e e) (hN : N ≤ 1000) (hm : m ≤ 1000) (x10 x11 x12 x13 : Option AV) :
    wpSs P0 (CW (n + 9)) (NW (n + 9)) (dropB 10 irL) (fL A x10 x11 x12 x13 r0) (ts2 row s t u []) fun fl _ _ => fl = .rt (.d (.boo true)) := by
  have hb := big_eq
  obtain ⟨t0, row1, s1, S⟩ := c_sown K 3 0 rfl (n + 3) row (dropB6 (ts2 row s t u [])) I.rk I.nm (by show N + 15 ≤ _; exact lin (ad hN (lq hb.symm)))
  have hz : t0.sz ≤ 15 := S.sz
  have n1 : NmOk s1 (N + 15) := S.nm
  have hl := en_len s1.fn t0
  have HE := c_entries K row1 (dropB6 (ts2 row s1 t u [])) n1 (lin (ad hN (lq hb.symm))) (n + 4) t0 S.w 3 S.ht [] (by show 0 + _ ≤ _; exact lin (ad (lq hb.symm) (ad hz (ad hz (ad hz hl)))))
  rw [List.nil_append, en_ep] at HE
  obtain ⟨ra, row2, H1, a0, am, R2⟩ := c_next K (n + 8) 6 (by decide) row1 S.rk (dropO (ts2 row s1 t u []))
  refine w_asg (v := .d t0.enc) (fun Q' q => S.rc _ q) (by exact Nat.le_of_ble_eq_true rfl) ?_
  refine w_asg (v := .d (.lst ((t0.ep s1.fn).map mP))) (fun Q' q => an (by decide) (HE _ q)) (by exact Nat.le_of_ble_eq_true rfl) ?_
  refine w_asg (v := .d (.lst (CW10.map .str))) (fun Q' q => an (by decide) (exO (.addL (by decide)) q)) (by exact Nat.le_of_ble_eq_true rfl) ?_
  refine H1 _ (exO (.add _ _) (exF (.range (by omega)) ?_))
  refine loop2 K (n + 5) A _ _ t0.enc (t0.ep s1.fn) e _ (rng _) x10 x11 x12 x13 ⟨R2, n1, I.t, I.u⟩ (fun c a _ => rfl) ?_ ?_ fun row s' u e2 y10 y11 y12 y13 I' Ag g => ?_
  · rw [rng_len]; omega
  · rw [rng_len]; omega
  · rw [rng_len] at I'
    have := law_end K n A t0 I' (by omega) (T.W.gr g _ S.w) (lin hz) (by rw [ep_gr n1 g t0 S.w]; exact Ag) y10 y11 y12 y13
    rw [ep_gr n1 g t0 S.w] at this
    exact this
theorem run02 (n : Nat) (ns : List Int) (hn : ns.length ≤ 63) : wpSs P0 (CW (n + 9)) (NW (n + 9)) irL (lawVars nsL ns) [] fun fl _ _ => fl = .rt (.d (.boo true)) := by
  have hb := big_eq
  refine c_row K (n + 8) ns hn fun row R => ?_
  refine c_symbols K (n + 5) row ?_
  obtain ⟨ra, row1, H1, a0, am, R1⟩ := c_next K (n + 8) 2 (by decide) row R (dropO (gst row ⟨tx0, fs0⟩ []))
  obtain ⟨rb, row2, H2, b0, bm, R2⟩ := c_next K (n + 8) 4 (by decide) row1 R1 (dropO (gst row ⟨tx0, fs0⟩ []))
  obtain ⟨rc, row3, H3, c0, cm, R3⟩ := c_next K (n + 8) 5 (by decide) row2 R2 (dropO (gst row ⟨tx0, fs0⟩ []))
  obtain ⟨most, ix⟩ := hts [1201, 999, 1200, 500, 0] c0 cm (by decide)
  obtain ⟨t, T1, HT⟩ := c_tab K (n + 4) row3 ⟨tx0, fs0⟩
  obtain ⟨u, U1, HU⟩ := c_tab2 K (n + 4) row3 ⟨tx0, fs0⟩ t
  obtain ⟨rd, row4, H4, d0, dm, R4⟩ := c_next K (n + 8) 5 (by decide) row3 R3 (dropO (ts2 row ⟨tx0, fs0⟩ t u []))
  show wpSs P0 (CW (n + 9)) (NW (n + 9)) (dropB 2 irL) (some (.d (.lst (ns.map .int))) :: some (.ob 0) :: some (.ob 1) :: List.replicate 16 none) (gst row ⟨tx0, fs0⟩ []) fun fl _ _ => fl = .rt (.d (.boo true))
  refine w_asg (v := .d (.boo (ra == 0))) (fun Q' q => H1 _ (exC CD.eqI q)) (by exact Nat.le_of_ble_eq_true rfl) ?_
  refine w_asg (v := .d (.boo (rb == 3))) (fun Q' q => H2 _ (exC CD.eqI q)) (by exact Nat.le_of_ble_eq_true rfl) ?_
  refine w_asg (v := .d (.int most)) (fun Q' q => an (by decide) (H3 _ (exI (ix _) q))) (by exact Nat.le_of_ble_eq_true rfl) ?_
  refine w_asg (v := .d (.lst (W5.map .str))) (fun Q' q => an (by decide) q) (by exact Nat.le_of_ble_eq_true rfl) ?_
  refine w_asg (v := .d (.lst KL)) (fun Q' q => an (by decide) q) (by exact Nat.le_of_ble_eq_true rfl) ?_
  refine w_asg (v := .ob 6) (fun Q' q => HT _ q) (by exact Nat.le_of_ble_eq_true rfl) ?_
  refine w_asg (v := .ob 10) (fun Q' q => HU _ q) (by exact Nat.le_of_ble_eq_true rfl) ?_
  refine H4 _ (exO (.add _ _) (exF (.range (by omega)) ?_))
  refine loop1 K (n + 5) ⟨.d (.lst (ns.map .int)), ra == 0, rb == 3, most⟩ _ _ _ (rng _) none none none none (N := 32) (m := 1) ⟨R4, nm0, T1, U1⟩ ?_ ?_ fun row s t u e y10 y11 y12 y13 I => ?_
  · rw [rng_len]; omega
  · rw [rng_len]; omega
  · rw [rng_len] at I
    exact law_mid K n ⟨.d (.lst (ns.map .int)), ra == 0, rb == 3, most⟩ I (by omega) (by omega) y10 y11 y12 y13
end Mn
end
section
namespace Mn
abbrev so := PySem.Str.ofString
abbrev PR : Program := PySem.Challenge.rw_sa0155_02.row.toRowW.1
noncomputable def B0 : List Stmt := PySem.Challenge.pw_sa0155_02.main.body
noncomputable def nS (l : List Stmt) (i : Nat) : Stmt := l.getD i (.Pass ⟨0, 0, 0, 0⟩)
noncomputable def fB : Stmt → List Stmt | .FunctionDef _ _ b _ _ _ _ _ _ _ => b | .ClassDef _ _ _ b _ _ _ _ _ _ _ => b | _ => []
noncomputable def fA : Stmt → Arguments | .FunctionDef _ a _ _ _ _ _ _ _ _ => a | _ => ⟨[], [], none, [], [], none, []⟩
noncomputable def fS : Stmt → Scope | .FunctionDef _ _ _ _ _ _ s _ _ _ => s | _ => ⟨.function, [], false, false, []⟩
noncomputable def kE (P : Params) (s : String) (n : Nat) (v : Value) : DictEntry := ⟨PyData.keyHash P (so s), .str (so s) n, v⟩
noncomputable def sv (s : String) (n : Nat) : Value := .str (so s) n
noncomputable def lf (o : Obj) : BT := .node o .nil .nil
noncomputable def mS (i j : Nat) : Stmt := nS (fB (nS B0 i)) j
noncomputable def oTu (a : Array Value) : Obj := ⟨(.type "tuple"), none, (.seq a 0), #[]⟩
noncomputable def oFa (a b : String) (n : Stmt) : Obj := ⟨.none, none, (.func ⟨(so a), (so b), fA n, .stmts (fB n), fS n, 0, [], .none, .none, .none, .none, none, .none, .none, 0⟩), #[]⟩
noncomputable def oFb (a b : String) (n : Stmt) (d m : Value) (r : Addr) : Obj := ⟨(.type "function"), none, (.func ⟨(so a), (so b), fA n, .stmts (fB n), fS n, 3, [], d, .none, .none, m, none, (.ref r), .none, 0⟩), #[]⟩
noncomputable def oFc (a : String) (i : Nat) (b : String) (j : Nat) (c : String) (k l g : Nat) (r : Addr) (V W X Y Z : Value) (m n : Nat) : Obj := ⟨(.type "code"), none, (.fields #[sv a i, sv b j, sv c k, .int l 0, .int g 0, .int 0 0, .int 0 0, .int 3 0, .ref r, .bool true, .int 181 0, V, W, X, Y, Z, .int m 0, .int l 0, sv c n]), #[]⟩
noncomputable def ho43 (P : Params) : Obj := oTu #[]
noncomputable def ho44 (P : Params) : Obj := ⟨.none, none, (.fields (#[])), (#[])⟩
noncomputable def ho45 (P : Params) : Obj := ⟨(.type "code"), none, (.fields (#[(sv "<module>" 182), (sv "<module>" 183), (sv "/claim/cut.py" 184), (.int 1 0), (.int 0 0), (.int 0 0), (.int 0 0), (.int 0 0), (.ref 11), (.bool false), (.int 181 0), (.ref 12), .none, .none, .none, .none, (.int 185 0), (.int 1 0), (sv "/claim/cut.py" 186)])), (#[])⟩
noncomputable def ho46 (P : Params) : Obj := ⟨(.type "frame"), none, .plain, (#[(some (.ref 13)), (some (.ref 3)), (some (.ref 3)), none, (some (sv "__main__" 164)), none, (some (.ref 0))])⟩
noncomputable def ho49 (P : Params) : Obj := ⟨(.type "dict"), none, (.dict (#[kE P "__name__" 165 (sv "clausemill.symbols" 194), kE P "__doc__" 166 .none, kE P "__package__" 167 .none, kE P "__loader__" 168 (.builtin "__main__.__loader__#opaque"), kE P "__spec__" 169 .none, kE P "__annotations__" 170 (.ref 6), kE P "__builtins__" 171 (.ref 4), kE P "__file__" 173 (sv "/claim/cut.py" 172), kE P "__cached__" 174 .none, kE P "_wall" 193 (.ref 21), kE P "A_NIL" 197 (.int 0 196), kE P "A_MINUS" 199 (.int 3 198), kE P "A_COMMA" 201 (.int 7 200), kE P "A_BAR" 203 (.int 8 202), kE P "F_DOT" 205 (.int 0 204), kE P "F_CURLY" 207 (.int 9 206), kE P "F_VARNAME" 209 (.int 17 208), kE P "fixed_atoms" 215 (.ref 28), kE P "fixed_functors" 221 (.ref 35)]) 19), (#[])⟩
noncomputable def ho50 (P : Params) : Obj := ⟨.none, none, (.fields (#[(.int 1 0), (.int 0 0), (.ref 20), (.int 12 0), (.int 0 0), (.ref 27), (.int 14 0), (.int 0 0), (.ref 34)])), (#[])⟩
noncomputable def ho53 (P : Params) : Obj := oTu #[(sv "k" 190)]
noncomputable def ho55 (P : Params) : Obj := oFa "_wall" "_wall" (nS B0 0)
noncomputable def ho56 (P : Params) : Obj := oFc "_wall" 187 "_wall" 188 "/claim/cut.py" 189 1 1 15 (.ref 16) .none (.ref 17) (.ref 18) (.ref 19) 191 192
noncomputable def ho57 (P : Params) : Obj := oFb "_wall" "_wall" (nS B0 0) .none (sv "__main__" 164) 20
noncomputable def ho62 (P : Params) : Obj := oFa "fixed_atoms" "fixed_atoms" (nS B0 9)
noncomputable def ho63 (P : Params) : Obj := oFc "fixed_atoms" 210 "fixed_atoms" 211 "/claim/cut.py" 212 12 0 22 (.ref 23) .none (.ref 24) (.ref 25) (.ref 26) 213 214
noncomputable def ho64 (P : Params) : Obj := oFb "fixed_atoms" "fixed_atoms" (nS B0 9) .none (sv "clausemill.symbols" 194) 27
noncomputable def ho69 (P : Params) : Obj := oFa "fixed_functors" "fixed_functors" (nS B0 10)
noncomputable def ho70 (P : Params) : Obj := oFc "fixed_functors" 216 "fixed_functors" 217 "/claim/cut.py" 218 14 0 29 (.ref 30) .none (.ref 31) (.ref 32) (.ref 33) 219 220
noncomputable def ho71 (P : Params) : Obj := oFb "fixed_functors" "fixed_functors" (nS B0 10) .none (sv "clausemill.symbols" 194) 34
noncomputable def ho72 (P : Params) : Obj := ⟨(.type "dict"), none, (.dict (#[kE P "__name__" 165 (sv "clausemill.symbols" 194), kE P "__doc__" 166 .none, kE P "__package__" 167 .none, kE P "__loader__" 168 (.builtin "__main__.__loader__#opaque"), kE P "__spec__" 169 .none, kE P "__annotations__" 170 (.ref 6), kE P "__builtins__" 171 (.ref 4), kE P "__file__" 173 (sv "/claim/cut.py" 172), kE P "__cached__" 174 .none, kE P "_wall" 193 (.ref 21), kE P "A_NIL" 197 (.int 0 196), kE P "A_MINUS" 199 (.int 3 198), kE P "A_COMMA" 201 (.int 7 200), kE P "A_BAR" 203 (.int 8 202), kE P "F_DOT" 205 (.int 0 204), kE P "F_CURLY" 207 (.int 9 206), kE P "F_VARNAME" 209 (.int 17 208), kE P "fixed_atoms" 215 (.ref 28), kE P "fixed_functors" 221 (.ref 35), kE P "Symbols" 340 (.ref 122)]) 20), (#[])⟩
noncomputable def ho73 (P : Params) : Obj := ⟨.none, none, (.fields (#[(.int 1 0), (.int 0 0), (.ref 20), (.int 12 0), (.int 0 0), (.ref 27), (.int 14 0), (.int 0 0), (.ref 34), (.int 16 0), (.int 0 0), (.ref 41)])), (#[])⟩
noncomputable def ho75 (P : Params) : Obj := ⟨(.type "builtin_function_or_method"), none, (.fields (#[(.builtin "type.__prepare__"), (.type "type")])), (#[])⟩
noncomputable def ho76 (P : Params) : Obj := ⟨(.type "dict"), none, (.dict (#[kE P "__module__" 229 (sv "clausemill.symbols" 194), kE P "__qualname__" 231 (sv "Symbols" 230), kE P "__firstlineno__" 233 (.int 16 232), kE P "__init__" 242 (.ref 49), kE P "atom" 252 (.ref 56), kE P "text" 260 (.ref 63), kE P "functor" 272 (.ref 70), kE P "func" 281 (.ref 77), kE P "name" 289 (.ref 84), kE P "arity" 297 (.ref 91), kE P "label" 305 (.ref 98), kE P "count" 312 (.ref 105), kE P "functor_count" 319 (.ref 112), kE P "known" 328 (.ref 119), kE P "__static_attributes__" 333 (.ref 120)]) 15), (#[])⟩
noncomputable def ho78 (P : Params) : Obj := ⟨.none, none, (.fields (#[(.int 18 0), (.int 4 0), (.ref 48), (.int 28 0), (.int 4 0), (.ref 55), (.int 37 0), (.int 4 0), (.ref 62), (.int 40 0), (.int 4 0), (.ref 69), (.int 50 0), (.int 4 0), (.ref 76), (.int 53 0), (.int 4 0), (.ref 83), (.int 56 0), (.int 4 0), (.ref 90), (.int 59 0), (.int 4 0), (.ref 97), (.int 62 0), (.int 4 0), (.ref 104), (.int 65 0), (.int 4 0), (.ref 111), (.int 68 0), (.int 4 0), (.ref 118)])), (#[])⟩
noncomputable def ho79 (P : Params) : Obj := ⟨(.type "code"), none, (.fields (#[(sv "Symbols" 224), (sv "Symbols" 225), (sv "/claim/cut.py" 226), (.int 16 0), (.int 0 0), (.int 0 0), (.int 0 0), (.int 0 0), (.ref 39), (.bool false), (.int 181 0), (.ref 40), .none, .none, .none, .none, (.int 227 0), (.int 16 0), (sv "/claim/cut.py" 228)])), (#[])⟩
noncomputable def ho80 (P : Params) : Obj := ⟨(.type "frame"), none, .plain, (#[(some (.ref 41)), (some (.ref 3)), (some (.ref 38)), none, (some (sv "clausemill.symbols" 194)), none, (some (.ref 0))])⟩
noncomputable def ho83 (P : Params) : Obj := oTu #[(sv "self" 237), (sv "text" 238), (sv "row" 239)]
noncomputable def ho85 (P : Params) : Obj := oFa "__init__" "Symbols.__init__" (mS 11 0)
noncomputable def ho86 (P : Params) : Obj := oFc "__init__" 234 "Symbols.__init__" 235 "/claim/cut.py" 236 18 1 43 (.ref 44) .none (.ref 45) (.ref 46) (.ref 47) 240 241
noncomputable def ho87 (P : Params) : Obj := oFb "__init__" "Symbols.__init__" (mS 11 0) .none (sv "clausemill.symbols" 194) 48
noncomputable def ho90 (P : Params) : Obj := oTu #[(sv "self" 246), (sv "text" 247), (sv "found" 248), (sv "number" 249)]
noncomputable def ho92 (P : Params) : Obj := oFa "atom" "Symbols.atom" (mS 11 1)
noncomputable def ho93 (P : Params) : Obj := oFc "atom" 243 "Symbols.atom" 244 "/claim/cut.py" 245 28 2 50 (.ref 51) .none (.ref 52) (.ref 53) (.ref 54) 250 251
noncomputable def ho94 (P : Params) : Obj := oFb "atom" "Symbols.atom" (mS 11 1) .none (sv "clausemill.symbols" 194) 55
noncomputable def ho97 (P : Params) : Obj := oTu #[(sv "self" 256), (sv "number" 257)]
noncomputable def ho99 (P : Params) : Obj := oFa "text" "Symbols.text" (mS 11 2)
noncomputable def ho100 (P : Params) : Obj := oFc "text" 253 "Symbols.text" 254 "/claim/cut.py" 255 37 2 57 (.ref 58) .none (.ref 59) (.ref 60) (.ref 61) 258 259
noncomputable def ho101 (P : Params) : Obj := oFb "text" "Symbols.text" (mS 11 2) .none (sv "clausemill.symbols" 194) 62
noncomputable def ho104 (P : Params) : Obj := oTu #[(sv "self" 264), (sv "atom" 265), (sv "arity" 266), (sv "key" 267), (sv "found" 268), (sv "number" 269)]
noncomputable def ho106 (P : Params) : Obj := oFa "functor" "Symbols.functor" (mS 11 3)
noncomputable def ho107 (P : Params) : Obj := oFc "functor" 261 "Symbols.functor" 262 "/claim/cut.py" 263 40 3 64 (.ref 65) .none (.ref 66) (.ref 67) (.ref 68) 270 271
noncomputable def ho108 (P : Params) : Obj := oFb "functor" "Symbols.functor" (mS 11 3) .none (sv "clausemill.symbols" 194) 69
noncomputable def ho111 (P : Params) : Obj := oTu #[(sv "self" 276), (sv "text" 277), (sv "arity" 278)]
noncomputable def ho113 (P : Params) : Obj := oFa "func" "Symbols.func" (mS 11 4)
noncomputable def ho114 (P : Params) : Obj := oFc "func" 273 "Symbols.func" 274 "/claim/cut.py" 275 50 3 71 (.ref 72) .none (.ref 73) (.ref 74) (.ref 75) 279 280
noncomputable def ho115 (P : Params) : Obj := oFb "func" "Symbols.func" (mS 11 4) .none (sv "clausemill.symbols" 194) 76
noncomputable def ho118 (P : Params) : Obj := oTu #[(sv "self" 285), (sv "functor" 286)]
noncomputable def ho120 (P : Params) : Obj := oFa "name" "Symbols.name" (mS 11 5)
noncomputable def ho121 (P : Params) : Obj := oFc "name" 282 "Symbols.name" 283 "/claim/cut.py" 284 53 2 78 (.ref 79) .none (.ref 80) (.ref 81) (.ref 82) 287 288
noncomputable def ho122 (P : Params) : Obj := oFb "name" "Symbols.name" (mS 11 5) .none (sv "clausemill.symbols" 194) 83
noncomputable def ho125 (P : Params) : Obj := oTu #[(sv "self" 293), (sv "functor" 294)]
noncomputable def ho127 (P : Params) : Obj := oFa "arity" "Symbols.arity" (mS 11 6)
noncomputable def ho128 (P : Params) : Obj := oFc "arity" 290 "Symbols.arity" 291 "/claim/cut.py" 292 56 2 85 (.ref 86) .none (.ref 87) (.ref 88) (.ref 89) 295 296
noncomputable def ho129 (P : Params) : Obj := oFb "arity" "Symbols.arity" (mS 11 6) .none (sv "clausemill.symbols" 194) 90
noncomputable def ho132 (P : Params) : Obj := oTu #[(sv "self" 301), (sv "functor" 302)]
noncomputable def ho134 (P : Params) : Obj := oFa "label" "Symbols.label" (mS 11 7)
noncomputable def ho135 (P : Params) : Obj := oFc "label" 298 "Symbols.label" 299 "/claim/cut.py" 300 59 2 92 (.ref 93) .none (.ref 94) (.ref 95) (.ref 96) 303 304
noncomputable def ho136 (P : Params) : Obj := oFb "label" "Symbols.label" (mS 11 7) .none (sv "clausemill.symbols" 194) 97
noncomputable def ho139 (P : Params) : Obj := oTu #[(sv "self" 309)]
noncomputable def ho141 (P : Params) : Obj := oFa "count" "Symbols.count" (mS 11 8)
noncomputable def ho142 (P : Params) : Obj := oFc "count" 306 "Symbols.count" 307 "/claim/cut.py" 308 62 1 99 (.ref 100) .none (.ref 101) (.ref 102) (.ref 103) 310 311
noncomputable def ho143 (P : Params) : Obj := oFb "count" "Symbols.count" (mS 11 8) .none (sv "clausemill.symbols" 194) 104
noncomputable def ho146 (P : Params) : Obj := oTu #[(sv "self" 316)]
noncomputable def ho148 (P : Params) : Obj := oFa "functor_count" "Symbols.functor_count" (mS 11 9)
noncomputable def ho149 (P : Params) : Obj := oFc "functor_count" 313 "Symbols.functor_count" 314 "/claim/cut.py" 315 65 1 106 (.ref 107) .none (.ref 108) (.ref 109) (.ref 110) 317 318
noncomputable def ho150 (P : Params) : Obj := oFb "functor_count" "Symbols.functor_count" (mS 11 9) .none (sv "clausemill.symbols" 194) 111
noncomputable def ho153 (P : Params) : Obj := oTu #[(sv "self" 323), (sv "text" 324), (sv "arity" 325)]
noncomputable def ho155 (P : Params) : Obj := oFa "known" "Symbols.known" (mS 11 10)
noncomputable def ho156 (P : Params) : Obj := oFc "known" 320 "Symbols.known" 321 "/claim/cut.py" 322 68 3 113 (.ref 114) .none (.ref 115) (.ref 116) (.ref 117) 326 327
noncomputable def ho157 (P : Params) : Obj := oFb "known" "Symbols.known" (mS 11 10) .none (sv "clausemill.symbols" 194) 118
noncomputable def ho158 (P : Params) : Obj := oTu #[(sv "atom_numbers" 329), (sv "functor_numbers" 330), (sv "functors" 331), (sv "texts" 332)]
noncomputable def ho159 (P : Params) : Obj := ⟨(.type "dict"), none, (.dict (#[kE P "__module__" 229 (sv "clausemill.symbols" 194), kE P "__firstlineno__" 233 (.int 16 232), kE P "__init__" 242 (.ref 49), kE P "atom" 252 (.ref 56), kE P "text" 260 (.ref 63), kE P "functor" 272 (.ref 70), kE P "func" 281 (.ref 77), kE P "name" 289 (.ref 84), kE P "arity" 297 (.ref 91), kE P "label" 305 (.ref 98), kE P "count" 312 (.ref 105), kE P "functor_count" 319 (.ref 112), kE P "known" 328 (.ref 119), kE P "__static_attributes__" 333 (.ref 120), kE P "__dict__" 335 (.ref 123), kE P "__weakref__" 337 (.ref 124), kE P "__doc__" 338 .none]) 4), (#[])⟩
noncomputable def ho160 (P : Params) : Obj := ⟨(.type "type"), none, (.cls ⟨(so "Symbols"), [(.type "object")], [(.ref 122), (.type "object")], 121, (so "Symbols"), true, [], [], false, none, false⟩), (#[none, none, (some (sv "Symbols" 222)), (some (sv "Symbols" 230)), (some (.builtin "object.__new__")), (some (.bool true))])⟩
noncomputable def ho161 (P : Params) : Obj := ⟨(.type "getset_descriptor"), none, (.fields (#[(sv "__dict__" 334), (.ref 122), (.builtin "function.__dict__"), (.builtin "function.__dict__#set")])), (#[])⟩
noncomputable def ho162 (P : Params) : Obj := ⟨(.type "getset_descriptor"), none, (.fields (#[(sv "__weakref__" 336), (.ref 122), (.builtin "ExceptionGroup.__weakref__"), .none])), (#[])⟩
noncomputable def ho163 (P : Params) : Obj := ⟨(.type "super"), none, (.fields (#[(.ref 122), (.ref 122), (.ref 122)])), (#[])⟩
noncomputable def ho164 (P : Params) : Obj := ⟨(.type "builtin_function_or_method"), none, (.fields (#[(.builtin "object.__init_subclass__"), (.ref 122)])), (#[])⟩
noncomputable def ho165 (P : Params) : Obj := ⟨(.type "dict"), none, (.dict (#[kE P "__name__" 165 (sv "clausemill.operators" 341), kE P "__doc__" 166 .none, kE P "__package__" 167 .none, kE P "__loader__" 168 (.builtin "__main__.__loader__#opaque"), kE P "__spec__" 169 .none, kE P "__annotations__" 170 (.ref 6), kE P "__builtins__" 171 (.ref 4), kE P "__file__" 173 (sv "/claim/cut.py" 172), kE P "__cached__" 174 .none, kE P "_wall" 193 (.ref 21), kE P "A_NIL" 197 (.int 0 196), kE P "A_MINUS" 199 (.int 3 198), kE P "A_COMMA" 201 (.int 7 200), kE P "A_BAR" 203 (.int 8 202), kE P "F_DOT" 205 (.int 0 204), kE P "F_CURLY" 207 (.int 9 206), kE P "F_VARNAME" 209 (.int 17 208), kE P "fixed_atoms" 215 (.ref 28), kE P "fixed_functors" 221 (.ref 35), kE P "Symbols" 340 (.ref 122), kE P "COMMA_PRIORITY" 344 (.int 1000 343), kE P "PREFIX_TYPES" 347 (.ref 127), kE P "INFIX_TYPES" 351 (.ref 128), kE P "POSTFIX_TYPES" 354 (.ref 129), kE P "standard_rows" 360 (.ref 136), kE P "fixity" 367 (.ref 143), kE P "bounds" 376 (.ref 150)]) 27), (#[])⟩
noncomputable def ho166 (P : Params) : Obj := ⟨.none, none, (.fields (#[(.int 1 0), (.int 0 0), (.ref 20), (.int 12 0), (.int 0 0), (.ref 27), (.int 14 0), (.int 0 0), (.ref 34), (.int 16 0), (.int 0 0), (.ref 41), (.int 75 0), (.int 0 0), (.ref 135), (.int 77 0), (.int 0 0), (.ref 142), (.int 85 0), (.int 0 0), (.ref 149)])), (#[])⟩
noncomputable def ho167 (P : Params) : Obj := oTu #[(sv "fx" 345), (sv "fy" 346)]
noncomputable def ho168 (P : Params) : Obj := oTu #[(sv "xfx" 348), (sv "xfy" 349), (sv "yfx" 350)]
noncomputable def ho169 (P : Params) : Obj := oTu #[(sv "xf" 352), (sv "yf" 353)]
noncomputable def ho174 (P : Params) : Obj := oFa "standard_rows" "standard_rows" (nS B0 17)
noncomputable def ho175 (P : Params) : Obj := oFc "standard_rows" 355 "standard_rows" 356 "/claim/cut.py" 357 75 0 130 (.ref 131) .none (.ref 132) (.ref 133) (.ref 134) 358 359
noncomputable def ho176 (P : Params) : Obj := oFb "standard_rows" "standard_rows" (nS B0 17) .none (sv "clausemill.operators" 341) 135
noncomputable def ho179 (P : Params) : Obj := oTu #[(sv "type_text" 364)]
noncomputable def ho181 (P : Params) : Obj := oFa "fixity" "fixity" (nS B0 18)
noncomputable def ho182 (P : Params) : Obj := oFc "fixity" 361 "fixity" 362 "/claim/cut.py" 363 77 1 137 (.ref 138) .none (.ref 139) (.ref 140) (.ref 141) 365 366
noncomputable def ho183 (P : Params) : Obj := oFb "fixity" "fixity" (nS B0 18) .none (sv "clausemill.operators" 341) 142
noncomputable def ho186 (P : Params) : Obj := oTu #[(sv "priority" 371), (sv "type_text" 372), (sv "lower" 373)]
noncomputable def ho188 (P : Params) : Obj := oFa "bounds" "bounds" (nS B0 19)
noncomputable def ho189 (P : Params) : Obj := oFc "bounds" 368 "bounds" 369 "/claim/cut.py" 370 85 2 144 (.ref 145) .none (.ref 146) (.ref 147) (.ref 148) 374 375
noncomputable def ho190 (P : Params) : Obj := oFb "bounds" "bounds" (nS B0 19) .none (sv "clausemill.operators" 341) 149
noncomputable def ho191 (P : Params) : Obj := ⟨(.type "dict"), none, (.dict (#[kE P "__name__" 165 (sv "clausemill.operators" 341), kE P "__doc__" 166 .none, kE P "__package__" 167 .none, kE P "__loader__" 168 (.builtin "__main__.__loader__#opaque"), kE P "__spec__" 169 .none, kE P "__annotations__" 170 (.ref 6), kE P "__builtins__" 171 (.ref 4), kE P "__file__" 173 (sv "/claim/cut.py" 172), kE P "__cached__" 174 .none, kE P "_wall" 193 (.ref 21), kE P "A_NIL" 197 (.int 0 196), kE P "A_MINUS" 199 (.int 3 198), kE P "A_COMMA" 201 (.int 7 200), kE P "A_BAR" 203 (.int 8 202), kE P "F_DOT" 205 (.int 0 204), kE P "F_CURLY" 207 (.int 9 206), kE P "F_VARNAME" 209 (.int 17 208), kE P "fixed_atoms" 215 (.ref 28), kE P "fixed_functors" 221 (.ref 35), kE P "Symbols" 340 (.ref 122), kE P "COMMA_PRIORITY" 344 (.int 1000 343), kE P "PREFIX_TYPES" 347 (.ref 127), kE P "INFIX_TYPES" 351 (.ref 128), kE P "POSTFIX_TYPES" 354 (.ref 129), kE P "standard_rows" 360 (.ref 136), kE P "fixity" 367 (.ref 143), kE P "bounds" 376 (.ref 150), kE P "OperatorTable" 476 (.ref 217)]) 28), (#[])⟩
noncomputable def ho192 (P : Params) : Obj := ⟨.none, none, (.fields (#[(.int 1 0), (.int 0 0), (.ref 20), (.int 12 0), (.int 0 0), (.ref 27), (.int 14 0), (.int 0 0), (.ref 34), (.int 16 0), (.int 0 0), (.ref 41), (.int 75 0), (.int 0 0), (.ref 135), (.int 77 0), (.int 0 0), (.ref 142), (.int 85 0), (.int 0 0), (.ref 149), (.int 100 0), (.int 0 0), (.ref 156)])), (#[])⟩
noncomputable def ho195 (P : Params) : Obj := ⟨(.type "dict"), none, (.dict (#[kE P "__module__" 384 (sv "clausemill.operators" 341), kE P "__qualname__" 386 (sv "OperatorTable" 385), kE P "__firstlineno__" 388 (.int 100 387), kE P "__init__" 401 (.ref 165), kE P "prefix" 409 (.ref 172), kE P "infix" 417 (.ref 179), kE P "postfix" 425 (.ref 186), kE P "is_operator" 433 (.ref 193), kE P "table_of" 442 (.ref 200), kE P "add" 453 (.ref 207), kE P "rows" 464 (.ref 214), kE P "__static_attributes__" 469 (.ref 215)]) 12), (#[])⟩
noncomputable def ho197 (P : Params) : Obj := ⟨.none, none, (.fields (#[(.int 102 0), (.int 4 0), (.ref 164), (.int 113 0), (.int 4 0), (.ref 171), (.int 116 0), (.int 4 0), (.ref 178), (.int 119 0), (.int 4 0), (.ref 185), (.int 122 0), (.int 4 0), (.ref 192), (.int 125 0), (.int 4 0), (.ref 199), (.int 133 0), (.int 4 0), (.ref 206), (.int 140 0), (.int 4 0), (.ref 213)])), (#[])⟩
noncomputable def ho198 (P : Params) : Obj := ⟨(.type "code"), none, (.fields (#[(sv "OperatorTable" 379), (sv "OperatorTable" 380), (sv "/claim/cut.py" 381), (.int 100 0), (.int 0 0), (.int 0 0), (.int 0 0), (.int 0 0), (.ref 154), (.bool false), (.int 181 0), (.ref 155), .none, .none, .none, .none, (.int 382 0), (.int 100 0), (sv "/claim/cut.py" 383)])), (#[])⟩
noncomputable def ho199 (P : Params) : Obj := ⟨(.type "frame"), none, .plain, (#[(some (.ref 156)), (some (.ref 3)), (some (.ref 153)), none, (some (sv "clausemill.operators" 341)), none, (some (.ref 0))])⟩
noncomputable def ho200 (P : Params) : Obj := oTu #[(.bool true)]
noncomputable def ho203 (P : Params) : Obj := oTu #[(sv "self" 392), (sv "symbols" 393), (sv "standard" 394), (sv "priority" 395), (sv "type_text" 396), (sv "names" 397), (sv "name" 398)]
noncomputable def ho205 (P : Params) : Obj := oFa "__init__" "OperatorTable.__init__" (mS 20 0)
noncomputable def ho206 (P : Params) : Obj := oFc "__init__" 389 "OperatorTable.__init__" 390 "/claim/cut.py" 391 102 3 159 (.ref 160) .none (.ref 161) (.ref 162) (.ref 163) 399 400
noncomputable def ho207 (P : Params) : Obj := oFb "__init__" "OperatorTable.__init__" (mS 20 0) (.ref 158) (sv "clausemill.operators" 341) 164
noncomputable def ho210 (P : Params) : Obj := oTu #[(sv "self" 405), (sv "a" 406)]
noncomputable def ho212 (P : Params) : Obj := oFa "prefix" "OperatorTable.prefix" (mS 20 1)
noncomputable def ho213 (P : Params) : Obj := oFc "prefix" 402 "OperatorTable.prefix" 403 "/claim/cut.py" 404 113 2 166 (.ref 167) .none (.ref 168) (.ref 169) (.ref 170) 407 408
noncomputable def ho214 (P : Params) : Obj := oFb "prefix" "OperatorTable.prefix" (mS 20 1) .none (sv "clausemill.operators" 341) 171
noncomputable def ho217 (P : Params) : Obj := oTu #[(sv "self" 413), (sv "a" 414)]
noncomputable def ho219 (P : Params) : Obj := oFa "infix" "OperatorTable.infix" (mS 20 2)
noncomputable def ho220 (P : Params) : Obj := oFc "infix" 410 "OperatorTable.infix" 411 "/claim/cut.py" 412 116 2 173 (.ref 174) .none (.ref 175) (.ref 176) (.ref 177) 415 416
noncomputable def ho221 (P : Params) : Obj := oFb "infix" "OperatorTable.infix" (mS 20 2) .none (sv "clausemill.operators" 341) 178
noncomputable def ho224 (P : Params) : Obj := oTu #[(sv "self" 421), (sv "a" 422)]
noncomputable def ho226 (P : Params) : Obj := oFa "postfix" "OperatorTable.postfix" (mS 20 3)
noncomputable def ho227 (P : Params) : Obj := oFc "postfix" 418 "OperatorTable.postfix" 419 "/claim/cut.py" 420 119 2 180 (.ref 181) .none (.ref 182) (.ref 183) (.ref 184) 423 424
noncomputable def ho228 (P : Params) : Obj := oFb "postfix" "OperatorTable.postfix" (mS 20 3) .none (sv "clausemill.operators" 341) 185
noncomputable def ho231 (P : Params) : Obj := oTu #[(sv "self" 429), (sv "a" 430)]
noncomputable def ho233 (P : Params) : Obj := oFa "is_operator" "OperatorTable.is_operator" (mS 20 4)
noncomputable def ho234 (P : Params) : Obj := oFc "is_operator" 426 "OperatorTable.is_operator" 427 "/claim/cut.py" 428 122 2 187 (.ref 188) .none (.ref 189) (.ref 190) (.ref 191) 431 432
noncomputable def ho235 (P : Params) : Obj := oFb "is_operator" "OperatorTable.is_operator" (mS 20 4) .none (sv "clausemill.operators" 341) 192
noncomputable def ho238 (P : Params) : Obj := oTu #[(sv "self" 437), (sv "type_text" 438), (sv "kind" 439)]
noncomputable def ho240 (P : Params) : Obj := oFa "table_of" "OperatorTable.table_of" (mS 20 5)
noncomputable def ho241 (P : Params) : Obj := oFc "table_of" 434 "OperatorTable.table_of" 435 "/claim/cut.py" 436 125 2 194 (.ref 195) .none (.ref 196) (.ref 197) (.ref 198) 440 441
noncomputable def ho242 (P : Params) : Obj := oFb "table_of" "OperatorTable.table_of" (mS 20 5) .none (sv "clausemill.operators" 341) 199
noncomputable def ho245 (P : Params) : Obj := oTu #[(sv "self" 446), (sv "priority" 447), (sv "type_text" 448), (sv "a" 449), (sv "table" 450)]
noncomputable def ho247 (P : Params) : Obj := oFa "add" "OperatorTable.add" (mS 20 6)
noncomputable def ho248 (P : Params) : Obj := oFc "add" 443 "OperatorTable.add" 444 "/claim/cut.py" 445 133 4 201 (.ref 202) .none (.ref 203) (.ref 204) (.ref 205) 451 452
noncomputable def ho249 (P : Params) : Obj := oFb "add" "OperatorTable.add" (mS 20 6) .none (sv "clausemill.operators" 341) 206
noncomputable def ho252 (P : Params) : Obj := oTu #[(sv "self" 457), (sv "found" 458), (sv "table" 459), (sv "a" 460), (sv "entry" 461)]
noncomputable def ho254 (P : Params) : Obj := oFa "rows" "OperatorTable.rows" (mS 20 7)
noncomputable def ho255 (P : Params) : Obj := oFc "rows" 454 "OperatorTable.rows" 455 "/claim/cut.py" 456 140 1 208 (.ref 209) .none (.ref 210) (.ref 211) (.ref 212) 462 463
noncomputable def ho256 (P : Params) : Obj := oFb "rows" "OperatorTable.rows" (mS 20 7) .none (sv "clausemill.operators" 341) 213
noncomputable def ho257 (P : Params) : Obj := oTu #[(sv "infixes" 465), (sv "postfixes" 466), (sv "prefixes" 467), (sv "symbols" 468)]
noncomputable def ho258 (P : Params) : Obj := ⟨(.type "dict"), none, (.dict (#[kE P "__module__" 384 (sv "clausemill.operators" 341), kE P "__firstlineno__" 388 (.int 100 387), kE P "__init__" 401 (.ref 165), kE P "prefix" 409 (.ref 172), kE P "infix" 417 (.ref 179), kE P "postfix" 425 (.ref 186), kE P "is_operator" 433 (.ref 193), kE P "table_of" 442 (.ref 200), kE P "add" 453 (.ref 207), kE P "rows" 464 (.ref 214), kE P "__static_attributes__" 469 (.ref 215), kE P "__dict__" 471 (.ref 218), kE P "__weakref__" 473 (.ref 219), kE P "__doc__" 474 .none]) 4), (#[])⟩
noncomputable def ho259 (P : Params) : Obj := ⟨(.type "type"), none, (.cls ⟨(so "OperatorTable"), [(.type "object")], [(.ref 217), (.type "object")], 216, (so "OperatorTable"), true, [], [], false, none, false⟩), (#[none, none, (some (sv "OperatorTable" 377)), (some (sv "OperatorTable" 385)), (some (.builtin "object.__new__")), (some (.bool true))])⟩
noncomputable def ho260 (P : Params) : Obj := ⟨(.type "getset_descriptor"), none, (.fields (#[(sv "__dict__" 470), (.ref 217), (.builtin "function.__dict__"), (.builtin "function.__dict__#set")])), (#[])⟩
noncomputable def ho261 (P : Params) : Obj := ⟨(.type "getset_descriptor"), none, (.fields (#[(sv "__weakref__" 472), (.ref 217), (.builtin "ExceptionGroup.__weakref__"), .none])), (#[])⟩
noncomputable def ho262 (P : Params) : Obj := ⟨(.type "super"), none, (.fields (#[(.ref 217), (.ref 217), (.ref 217)])), (#[])⟩
noncomputable def ho263 (P : Params) : Obj := ⟨(.type "builtin_function_or_method"), none, (.fields (#[(.builtin "object.__init_subclass__"), (.ref 217)])), (#[])⟩
noncomputable def ho264 (P : Params) : Obj := ⟨(.type "dict"), none, (.dict (#[kE P "__name__" 165 (sv "clausemill.writer" 557), kE P "__doc__" 166 .none, kE P "__package__" 167 .none, kE P "__loader__" 168 (.builtin "__main__.__loader__#opaque"), kE P "__spec__" 169 .none, kE P "__annotations__" 170 (.ref 6), kE P "__builtins__" 171 (.ref 4), kE P "__file__" 173 (sv "/claim/cut.py" 172), kE P "__cached__" 174 .none, kE P "_wall" 193 (.ref 21), kE P "A_NIL" 197 (.int 0 196), kE P "A_MINUS" 199 (.int 3 198), kE P "A_COMMA" 201 (.int 7 200), kE P "A_BAR" 203 (.int 8 202), kE P "F_DOT" 205 (.int 0 204), kE P "F_CURLY" 207 (.int 9 206), kE P "F_VARNAME" 209 (.int 17 208), kE P "fixed_atoms" 215 (.ref 28), kE P "fixed_functors" 221 (.ref 35), kE P "Symbols" 340 (.ref 122), kE P "COMMA_PRIORITY" 344 (.int 1000 343), kE P "PREFIX_TYPES" 347 (.ref 127), kE P "INFIX_TYPES" 351 (.ref 128), kE P "POSTFIX_TYPES" 354 (.ref 129), kE P "standard_rows" 360 (.ref 136), kE P "fixity" 367 (.ref 143), kE P "bounds" 376 (.ref 150), kE P "OperatorTable" 476 (.ref 217), kE P "list_items" 486 (.ref 228), kE P "is_digit" 495 (.ref 235), kE P "is_small" 502 (.ref 242), kE P "is_capital" 509 (.ref 249), kE P "is_alnum" 516 (.ref 256), kE P "is_symbol" 523 (.ref 263), kE P "number_text" 533 (.ref 270), kE P "is_alnum_name" 541 (.ref 277), kE P "is_symbol_name" 549 (.ref 284), kE P "is_plain_name" 556 (.ref 291), kE P "WHOLE_PRIORITY" 560 (.int 1201 559), kE P "ARGUMENT_PRIORITY" 562 (.int 999 561), kE P "escaped" 570 (.ref 298)]) 41), (#[])⟩
noncomputable def ho265 (P : Params) : Obj := ⟨.none, none, (.fields (#[(.int 1 0), (.int 0 0), (.ref 20), (.int 12 0), (.int 0 0), (.ref 27), (.int 14 0), (.int 0 0), (.ref 34), (.int 16 0), (.int 0 0), (.ref 41), (.int 75 0), (.int 0 0), (.ref 135), (.int 77 0), (.int 0 0), (.ref 142), (.int 85 0), (.int 0 0), (.ref 149), (.int 100 0), (.int 0 0), (.ref 156), (.int 147 0), (.int 0 0), (.ref 227), (.int 154 0), (.int 0 0), (.ref 234), (.int 156 0), (.int 0 0), (.ref 241), (.int 158 0), (.int 0 0), (.ref 248), (.int 160 0), (.int 0 0), (.ref 255), (.int 162 0), (.int 0 0), (.ref 262), (.int 164 0), (.int 0 0), (.ref 269), (.int 174 0), (.int 0 0), (.ref 276), (.int 181 0), (.int 0 0), (.ref 283), (.int 188 0), (.int 0 0), (.ref 290), (.int 197 0), (.int 0 0), (.ref 297)])), (#[])⟩
noncomputable def ho268 (P : Params) : Obj := oTu #[(sv "term" 482), (sv "items" 483)]
noncomputable def ho270 (P : Params) : Obj := oFa "list_items" "list_items" (nS B0 22)
noncomputable def ho271 (P : Params) : Obj := oFc "list_items" 479 "list_items" 480 "/claim/cut.py" 481 147 1 222 (.ref 223) .none (.ref 224) (.ref 225) (.ref 226) 484 485
noncomputable def ho272 (P : Params) : Obj := oFb "list_items" "list_items" (nS B0 22) .none (sv "clausemill.terms" 477) 227
noncomputable def ho275 (P : Params) : Obj := oTu #[(sv "code" 492)]
noncomputable def ho277 (P : Params) : Obj := oFa "is_digit" "is_digit" (nS B0 24)
noncomputable def ho278 (P : Params) : Obj := oFc "is_digit" 489 "is_digit" 490 "/claim/cut.py" 491 154 1 229 (.ref 230) .none (.ref 231) (.ref 232) (.ref 233) 493 494
noncomputable def ho279 (P : Params) : Obj := oFb "is_digit" "is_digit" (nS B0 24) .none (sv "clausemill.chars" 487) 234
noncomputable def ho282 (P : Params) : Obj := oTu #[(sv "code" 499)]
noncomputable def ho284 (P : Params) : Obj := oFa "is_small" "is_small" (nS B0 25)
noncomputable def ho285 (P : Params) : Obj := oFc "is_small" 496 "is_small" 497 "/claim/cut.py" 498 156 1 236 (.ref 237) .none (.ref 238) (.ref 239) (.ref 240) 500 501
noncomputable def ho286 (P : Params) : Obj := oFb "is_small" "is_small" (nS B0 25) .none (sv "clausemill.chars" 487) 241
noncomputable def ho289 (P : Params) : Obj := oTu #[(sv "code" 506)]
noncomputable def ho291 (P : Params) : Obj := oFa "is_capital" "is_capital" (nS B0 26)
noncomputable def ho292 (P : Params) : Obj := oFc "is_capital" 503 "is_capital" 504 "/claim/cut.py" 505 158 1 243 (.ref 244) .none (.ref 245) (.ref 246) (.ref 247) 507 508
noncomputable def ho293 (P : Params) : Obj := oFb "is_capital" "is_capital" (nS B0 26) .none (sv "clausemill.chars" 487) 248
noncomputable def ho296 (P : Params) : Obj := oTu #[(sv "code" 513)]
noncomputable def ho298 (P : Params) : Obj := oFa "is_alnum" "is_alnum" (nS B0 27)
noncomputable def ho299 (P : Params) : Obj := oFc "is_alnum" 510 "is_alnum" 511 "/claim/cut.py" 512 160 1 250 (.ref 251) .none (.ref 252) (.ref 253) (.ref 254) 514 515
noncomputable def ho300 (P : Params) : Obj := oFb "is_alnum" "is_alnum" (nS B0 27) .none (sv "clausemill.chars" 487) 255
noncomputable def ho303 (P : Params) : Obj := oTu #[(sv "code" 520)]
noncomputable def ho305 (P : Params) : Obj := oFa "is_symbol" "is_symbol" (nS B0 28)
noncomputable def ho306 (P : Params) : Obj := oFc "is_symbol" 517 "is_symbol" 518 "/claim/cut.py" 519 162 1 257 (.ref 258) .none (.ref 259) (.ref 260) (.ref 261) 521 522
noncomputable def ho307 (P : Params) : Obj := oFb "is_symbol" "is_symbol" (nS B0 28) .none (sv "clausemill.chars" 487) 262
noncomputable def ho310 (P : Params) : Obj := oTu #[(sv "value" 527), (sv "rest" 528), (sv "pieces" 529), (sv "piece" 530)]
noncomputable def ho312 (P : Params) : Obj := oFa "number_text" "number_text" (nS B0 29)
noncomputable def ho313 (P : Params) : Obj := oFc "number_text" 524 "number_text" 525 "/claim/cut.py" 526 164 1 264 (.ref 265) .none (.ref 266) (.ref 267) (.ref 268) 531 532
noncomputable def ho314 (P : Params) : Obj := oFb "number_text" "number_text" (nS B0 29) .none (sv "clausemill.chars" 487) 269
noncomputable def ho317 (P : Params) : Obj := oTu #[(sv "text" 537), (sv "char" 538)]
noncomputable def ho319 (P : Params) : Obj := oFa "is_alnum_name" "is_alnum_name" (nS B0 30)
noncomputable def ho320 (P : Params) : Obj := oFc "is_alnum_name" 534 "is_alnum_name" 535 "/claim/cut.py" 536 174 1 271 (.ref 272) .none (.ref 273) (.ref 274) (.ref 275) 539 540
noncomputable def ho321 (P : Params) : Obj := oFb "is_alnum_name" "is_alnum_name" (nS B0 30) .none (sv "clausemill.chars" 487) 276
noncomputable def ho324 (P : Params) : Obj := oTu #[(sv "text" 545), (sv "char" 546)]
noncomputable def ho326 (P : Params) : Obj := oFa "is_symbol_name" "is_symbol_name" (nS B0 31)
noncomputable def ho327 (P : Params) : Obj := oFc "is_symbol_name" 542 "is_symbol_name" 543 "/claim/cut.py" 544 181 1 278 (.ref 279) .none (.ref 280) (.ref 281) (.ref 282) 547 548
noncomputable def ho328 (P : Params) : Obj := oFb "is_symbol_name" "is_symbol_name" (nS B0 31) .none (sv "clausemill.chars" 487) 283
noncomputable def ho331 (P : Params) : Obj := oTu #[(sv "text" 553)]
noncomputable def ho333 (P : Params) : Obj := oFa "is_plain_name" "is_plain_name" (nS B0 32)
noncomputable def ho334 (P : Params) : Obj := oFc "is_plain_name" 550 "is_plain_name" 551 "/claim/cut.py" 552 188 1 285 (.ref 286) .none (.ref 287) (.ref 288) (.ref 289) 554 555
noncomputable def ho335 (P : Params) : Obj := oFb "is_plain_name" "is_plain_name" (nS B0 32) .none (sv "clausemill.chars" 487) 290
noncomputable def ho338 (P : Params) : Obj := oTu #[(sv "code" 566), (sv "digits" 567)]
noncomputable def ho340 (P : Params) : Obj := oFa "escaped" "escaped" (nS B0 36)
noncomputable def ho341 (P : Params) : Obj := oFc "escaped" 563 "escaped" 564 "/claim/cut.py" 565 197 1 292 (.ref 293) .none (.ref 294) (.ref 295) (.ref 296) 568 569
noncomputable def ho342 (P : Params) : Obj := oFb "escaped" "escaped" (nS B0 36) .none (sv "clausemill.writer" 557) 297
noncomputable def ho343 (P : Params) : Obj := ⟨(.type "dict"), none, (.dict (#[kE P "__name__" 165 (sv "clausemill.writer" 557), kE P "__doc__" 166 .none, kE P "__package__" 167 .none, kE P "__loader__" 168 (.builtin "__main__.__loader__#opaque"), kE P "__spec__" 169 .none, kE P "__annotations__" 170 (.ref 6), kE P "__builtins__" 171 (.ref 4), kE P "__file__" 173 (sv "/claim/cut.py" 172), kE P "__cached__" 174 .none, kE P "_wall" 193 (.ref 21), kE P "A_NIL" 197 (.int 0 196), kE P "A_MINUS" 199 (.int 3 198), kE P "A_COMMA" 201 (.int 7 200), kE P "A_BAR" 203 (.int 8 202), kE P "F_DOT" 205 (.int 0 204), kE P "F_CURLY" 207 (.int 9 206), kE P "F_VARNAME" 209 (.int 17 208), kE P "fixed_atoms" 215 (.ref 28), kE P "fixed_functors" 221 (.ref 35), kE P "Symbols" 340 (.ref 122), kE P "COMMA_PRIORITY" 344 (.int 1000 343), kE P "PREFIX_TYPES" 347 (.ref 127), kE P "INFIX_TYPES" 351 (.ref 128), kE P "POSTFIX_TYPES" 354 (.ref 129), kE P "standard_rows" 360 (.ref 136), kE P "fixity" 367 (.ref 143), kE P "bounds" 376 (.ref 150), kE P "OperatorTable" 476 (.ref 217), kE P "list_items" 486 (.ref 228), kE P "is_digit" 495 (.ref 235), kE P "is_small" 502 (.ref 242), kE P "is_capital" 509 (.ref 249), kE P "is_alnum" 516 (.ref 256), kE P "is_symbol" 523 (.ref 263), kE P "number_text" 533 (.ref 270), kE P "is_alnum_name" 541 (.ref 277), kE P "is_symbol_name" 549 (.ref 284), kE P "is_plain_name" 556 (.ref 291), kE P "WHOLE_PRIORITY" 560 (.int 1201 559), kE P "ARGUMENT_PRIORITY" 562 (.int 999 561), kE P "escaped" 570 (.ref 298), kE P "quoted_text" 579 (.ref 305), kE P "atom_text" 589 (.ref 313), kE P "numbered_text" 597 (.ref 320), kE P "is_word" 605 (.ref 327), kE P "is_tight" 612 (.ref 334)]) 46), (#[])⟩
noncomputable def ho344 (P : Params) : Obj := ⟨.none, none, (.fields (#[(.int 1 0), (.int 0 0), (.ref 20), (.int 12 0), (.int 0 0), (.ref 27), (.int 14 0), (.int 0 0), (.ref 34), (.int 16 0), (.int 0 0), (.ref 41), (.int 75 0), (.int 0 0), (.ref 135), (.int 77 0), (.int 0 0), (.ref 142), (.int 85 0), (.int 0 0), (.ref 149), (.int 100 0), (.int 0 0), (.ref 156), (.int 147 0), (.int 0 0), (.ref 227), (.int 154 0), (.int 0 0), (.ref 234), (.int 156 0), (.int 0 0), (.ref 241), (.int 158 0), (.int 0 0), (.ref 248), (.int 160 0), (.int 0 0), (.ref 255), (.int 162 0), (.int 0 0), (.ref 262), (.int 164 0), (.int 0 0), (.ref 269), (.int 174 0), (.int 0 0), (.ref 276), (.int 181 0), (.int 0 0), (.ref 283), (.int 188 0), (.int 0 0), (.ref 290), (.int 197 0), (.int 0 0), (.ref 297), (.int 206 0), (.int 0 0), (.ref 304), (.int 212 0), (.int 0 0), (.ref 312), (.int 217 0), (.int 0 0), (.ref 319), (.int 222 0), (.int 0 0), (.ref 326), (.int 225 0), (.int 0 0), (.ref 333)])), (#[])⟩
noncomputable def ho347 (P : Params) : Obj := oTu #[(sv "text" 574), (sv "parts" 575), (sv "char" 576)]
noncomputable def ho349 (P : Params) : Obj := oFa "quoted_text" "quoted_text" (nS B0 37)
noncomputable def ho350 (P : Params) : Obj := oFc "quoted_text" 571 "quoted_text" 572 "/claim/cut.py" 573 206 1 299 (.ref 300) .none (.ref 301) (.ref 302) (.ref 303) 577 578
noncomputable def ho351 (P : Params) : Obj := oFb "quoted_text" "quoted_text" (nS B0 37) .none (sv "clausemill.writer" 557) 304
noncomputable def ho355 (P : Params) : Obj := oTu #[(sv "symbols" 583), (sv "a" 584), (sv "quoted" 585), (sv "text" 586)]
noncomputable def ho357 (P : Params) : Obj := oFa "atom_text" "atom_text" (nS B0 38)
noncomputable def ho358 (P : Params) : Obj := oFc "atom_text" 580 "atom_text" 581 "/claim/cut.py" 582 212 3 307 (.ref 308) .none (.ref 309) (.ref 310) (.ref 311) 587 588
noncomputable def ho359 (P : Params) : Obj := oFb "atom_text" "atom_text" (nS B0 38) (.ref 306) (sv "clausemill.writer" 557) 312
noncomputable def ho362 (P : Params) : Obj := oTu #[(sv "number" 593), (sv "letter" 594)]
noncomputable def ho364 (P : Params) : Obj := oFa "numbered_text" "numbered_text" (nS B0 39)
noncomputable def ho365 (P : Params) : Obj := oFc "numbered_text" 590 "numbered_text" 591 "/claim/cut.py" 592 217 1 314 (.ref 315) .none (.ref 316) (.ref 317) (.ref 318) 595 596
noncomputable def ho366 (P : Params) : Obj := oFb "numbered_text" "numbered_text" (nS B0 39) .none (sv "clausemill.writer" 557) 319
noncomputable def ho369 (P : Params) : Obj := oTu #[(sv "char" 601), (sv "code" 602)]
noncomputable def ho371 (P : Params) : Obj := oFa "is_word" "is_word" (nS B0 40)
noncomputable def ho372 (P : Params) : Obj := oFc "is_word" 598 "is_word" 599 "/claim/cut.py" 600 222 1 321 (.ref 322) .none (.ref 323) (.ref 324) (.ref 325) 603 604
noncomputable def ho373 (P : Params) : Obj := oFb "is_word" "is_word" (nS B0 40) .none (sv "clausemill.writer" 557) 326
noncomputable def ho376 (P : Params) : Obj := oTu #[(sv "text" 609)]
noncomputable def ho378 (P : Params) : Obj := oFa "is_tight" "is_tight" (nS B0 41)
noncomputable def ho379 (P : Params) : Obj := oFc "is_tight" 606 "is_tight" 607 "/claim/cut.py" 608 225 1 328 (.ref 329) .none (.ref 330) (.ref 331) (.ref 332) 610 611
noncomputable def ho380 (P : Params) : Obj := oFb "is_tight" "is_tight" (nS B0 41) .none (sv "clausemill.writer" 557) 333
noncomputable def ho381 (P : Params) : Obj := ⟨(.type "dict"), none, (.dict (#[kE P "__name__" 165 (sv "clausemill.writer" 557), kE P "__doc__" 166 .none, kE P "__package__" 167 .none, kE P "__loader__" 168 (.builtin "__main__.__loader__#opaque"), kE P "__spec__" 169 .none, kE P "__annotations__" 170 (.ref 6), kE P "__builtins__" 171 (.ref 4), kE P "__file__" 173 (sv "/claim/cut.py" 172), kE P "__cached__" 174 .none, kE P "_wall" 193 (.ref 21), kE P "A_NIL" 197 (.int 0 196), kE P "A_MINUS" 199 (.int 3 198), kE P "A_COMMA" 201 (.int 7 200), kE P "A_BAR" 203 (.int 8 202), kE P "F_DOT" 205 (.int 0 204), kE P "F_CURLY" 207 (.int 9 206), kE P "F_VARNAME" 209 (.int 17 208), kE P "fixed_atoms" 215 (.ref 28), kE P "fixed_functors" 221 (.ref 35), kE P "Symbols" 340 (.ref 122), kE P "COMMA_PRIORITY" 344 (.int 1000 343), kE P "PREFIX_TYPES" 347 (.ref 127), kE P "INFIX_TYPES" 351 (.ref 128), kE P "POSTFIX_TYPES" 354 (.ref 129), kE P "standard_rows" 360 (.ref 136), kE P "fixity" 367 (.ref 143), kE P "bounds" 376 (.ref 150), kE P "OperatorTable" 476 (.ref 217), kE P "list_items" 486 (.ref 228), kE P "is_digit" 495 (.ref 235), kE P "is_small" 502 (.ref 242), kE P "is_capital" 509 (.ref 249), kE P "is_alnum" 516 (.ref 256), kE P "is_symbol" 523 (.ref 263), kE P "number_text" 533 (.ref 270), kE P "is_alnum_name" 541 (.ref 277), kE P "is_symbol_name" 549 (.ref 284), kE P "is_plain_name" 556 (.ref 291), kE P "WHOLE_PRIORITY" 560 (.int 1201 559), kE P "ARGUMENT_PRIORITY" 562 (.int 999 561), kE P "escaped" 570 (.ref 298), kE P "quoted_text" 579 (.ref 305), kE P "atom_text" 589 (.ref 313), kE P "numbered_text" 597 (.ref 320), kE P "is_word" 605 (.ref 327), kE P "is_tight" 612 (.ref 334), kE P "Writer" 832 (.ref 472)]) 47), (#[])⟩
noncomputable def ho382 (P : Params) : Obj := ⟨.none, none, (.fields (#[(.int 1 0), (.int 0 0), (.ref 20), (.int 12 0), (.int 0 0), (.ref 27), (.int 14 0), (.int 0 0), (.ref 34), (.int 16 0), (.int 0 0), (.ref 41), (.int 75 0), (.int 0 0), (.ref 135), (.int 77 0), (.int 0 0), (.ref 142), (.int 85 0), (.int 0 0), (.ref 149), (.int 100 0), (.int 0 0), (.ref 156), (.int 147 0), (.int 0 0), (.ref 227), (.int 154 0), (.int 0 0), (.ref 234), (.int 156 0), (.int 0 0), (.ref 241), (.int 158 0), (.int 0 0), (.ref 248), (.int 160 0), (.int 0 0), (.ref 255), (.int 162 0), (.int 0 0), (.ref 262), (.int 164 0), (.int 0 0), (.ref 269), (.int 174 0), (.int 0 0), (.ref 276), (.int 181 0), (.int 0 0), (.ref 283), (.int 188 0), (.int 0 0), (.ref 290), (.int 197 0), (.int 0 0), (.ref 297), (.int 206 0), (.int 0 0), (.ref 304), (.int 212 0), (.int 0 0), (.ref 312), (.int 217 0), (.int 0 0), (.ref 319), (.int 222 0), (.int 0 0), (.ref 326), (.int 225 0), (.int 0 0), (.ref 333), (.int 227 0), (.int 0 0), (.ref 340)])), (#[])⟩
noncomputable def ho385 (P : Params) : Obj := ⟨(.type "dict"), none, (.dict (#[kE P "__module__" 620 (sv "clausemill.writer" 557), kE P "__qualname__" 622 (sv "Writer" 621), kE P "__firstlineno__" 624 (.int 227 623), kE P "__init__" 639 (.ref 349), kE P "text" 652 (.ref 357), kE P "raw" 660 (.ref 364), kE P "token" 668 (.ref 371), kE P "needs_space" 676 (.ref 378), kE P "later" 685 (.ref 385), kE P "write" 697 (.ref 392), kE P "variable_text" 706 (.ref 399), kE P "is_numbered" 714 (.ref 406), kE P "write_atom" 724 (.ref 413), kE P "write_list" 736 (.ref 420), kE P "write_functional" 746 (.ref 427), kE P "shape" 757 (.ref 434), kE P "write_operation" 775 (.ref 441), kE P "left_limit" 786 (.ref 448), kE P "prefix_operator" 795 (.ref 455), kE P "infix_operator" 804 (.ref 462), kE P "postfix_operator" 813 (.ref 469), kE P "__static_attributes__" 825 (.ref 470)]) 22), (#[])⟩
noncomputable def ho387 (P : Params) : Obj := ⟨.none, none, (.fields (#[(.int 229 0), (.int 4 0), (.ref 348), (.int 246 0), (.int 4 0), (.ref 356), (.int 263 0), (.int 4 0), (.ref 363), (.int 269 0), (.int 4 0), (.ref 370), (.int 275 0), (.int 4 0), (.ref 377), (.int 286 0), (.int 4 0), (.ref 384), (.int 290 0), (.int 4 0), (.ref 391), (.int 312 0), (.int 4 0), (.ref 398), (.int 320 0), (.int 4 0), (.ref 405), (.int 325 0), (.int 4 0), (.ref 412), (.int 334 0), (.int 4 0), (.ref 419), (.int 348 0), (.int 4 0), (.ref 426), (.int 360 0), (.int 4 0), (.ref 433), (.int 382 0), (.int 4 0), (.ref 440), (.int 402 0), (.int 4 0), (.ref 447), (.int 408 0), (.int 4 0), (.ref 454), (.int 416 0), (.int 4 0), (.ref 461), (.int 429 0), (.int 4 0), (.ref 468)])), (#[])⟩
noncomputable def ho388 (P : Params) : Obj := ⟨(.type "code"), none, (.fields (#[(sv "Writer" 615), (sv "Writer" 616), (sv "/claim/cut.py" 617), (.int 227 0), (.int 0 0), (.int 0 0), (.int 0 0), (.int 0 0), (.ref 338), (.bool false), (.int 181 0), (.ref 339), .none, .none, .none, .none, (.int 618 0), (.int 227 0), (sv "/claim/cut.py" 619)])), (#[])⟩
noncomputable def ho389 (P : Params) : Obj := ⟨(.type "frame"), none, .plain, (#[(some (.ref 340)), (some (.ref 3)), (some (.ref 337)), none, (some (sv "clausemill.writer" 557)), none, (some (.ref 0))])⟩
noncomputable def ho390 (P : Params) : Obj := oTu #[(.bool true), (.bool false), (.bool false), .none]
noncomputable def ho393 (P : Params) : Obj := oTu #[(sv "self" 628), (sv "symbols" 629), (sv "operators" 630), (sv "quoted" 631), (sv "ignore_ops" 632), (sv "numbervars" 633), (sv "names" 634), (sv "k" 635), (sv "text" 636)]
noncomputable def ho395 (P : Params) : Obj := oFa "__init__" "Writer.__init__" (mS 42 0)
noncomputable def ho396 (P : Params) : Obj := oFc "__init__" 625 "Writer.__init__" 626 "/claim/cut.py" 627 229 7 343 (.ref 344) .none (.ref 345) (.ref 346) (.ref 347) 637 638
noncomputable def ho397 (P : Params) : Obj := oFb "__init__" "Writer.__init__" (mS 42 0) (.ref 342) (sv "clausemill.writer" 557) 348
noncomputable def ho398 (P : Params) : Obj := oTu #[(.int 1201 559)]
noncomputable def ho401 (P : Params) : Obj := oTu #[(sv "self" 643), (sv "term" 644), (sv "most" 645), (sv "kind" 646), (sv "item" 647), (sv "limit" 648), (sv "alone" 649)]
noncomputable def ho403 (P : Params) : Obj := oFa "text" "Writer.text" (mS 42 1)
noncomputable def ho404 (P : Params) : Obj := oFc "text" 640 "Writer.text" 641 "/claim/cut.py" 642 246 3 351 (.ref 352) .none (.ref 353) (.ref 354) (.ref 355) 650 651
noncomputable def ho405 (P : Params) : Obj := oFb "text" "Writer.text" (mS 42 1) (.ref 350) (sv "clausemill.writer" 557) 356
noncomputable def ho408 (P : Params) : Obj := oTu #[(sv "self" 656), (sv "text" 657)]
noncomputable def ho410 (P : Params) : Obj := oFa "raw" "Writer.raw" (mS 42 2)
noncomputable def ho411 (P : Params) : Obj := oFc "raw" 653 "Writer.raw" 654 "/claim/cut.py" 655 263 2 358 (.ref 359) .none (.ref 360) (.ref 361) (.ref 362) 658 659
noncomputable def ho412 (P : Params) : Obj := oFb "raw" "Writer.raw" (mS 42 2) .none (sv "clausemill.writer" 557) 363
noncomputable def ho415 (P : Params) : Obj := oTu #[(sv "self" 664), (sv "text" 665)]
noncomputable def ho417 (P : Params) : Obj := oFa "token" "Writer.token" (mS 42 3)
noncomputable def ho418 (P : Params) : Obj := oFc "token" 661 "Writer.token" 662 "/claim/cut.py" 663 269 2 365 (.ref 366) .none (.ref 367) (.ref 368) (.ref 369) 666 667
noncomputable def ho419 (P : Params) : Obj := oFb "token" "Writer.token" (mS 42 3) .none (sv "clausemill.writer" 557) 370
noncomputable def ho422 (P : Params) : Obj := oTu #[(sv "self" 672), (sv "first" 673)]
noncomputable def ho424 (P : Params) : Obj := oFa "needs_space" "Writer.needs_space" (mS 42 4)
noncomputable def ho425 (P : Params) : Obj := oFc "needs_space" 669 "Writer.needs_space" 670 "/claim/cut.py" 671 275 2 372 (.ref 373) .none (.ref 374) (.ref 375) (.ref 376) 674 675
noncomputable def ho426 (P : Params) : Obj := oFb "needs_space" "Writer.needs_space" (mS 42 4) .none (sv "clausemill.writer" 557) 377
noncomputable def ho429 (P : Params) : Obj := oTu #[(sv "self" 680), (sv "items" 681), (sv "item" 682)]
noncomputable def ho431 (P : Params) : Obj := oFa "later" "Writer.later" (mS 42 5)
noncomputable def ho432 (P : Params) : Obj := oFc "later" 677 "Writer.later" 678 "/claim/cut.py" 679 286 2 379 (.ref 380) .none (.ref 381) (.ref 382) (.ref 383) 683 684
noncomputable def ho433 (P : Params) : Obj := oFb "later" "Writer.later" (mS 42 5) .none (sv "clausemill.writer" 557) 384
noncomputable def ho436 (P : Params) : Obj := oTu #[(sv "self" 689), (sv "term" 690), (sv "most" 691), (sv "alone" 692), (sv "kind" 693), (sv "shape" 694)]
noncomputable def ho438 (P : Params) : Obj := oFa "write" "Writer.write" (mS 42 6)
noncomputable def ho439 (P : Params) : Obj := oFc "write" 686 "Writer.write" 687 "/claim/cut.py" 688 290 4 386 (.ref 387) .none (.ref 388) (.ref 389) (.ref 390) 695 696
noncomputable def ho440 (P : Params) : Obj := oFb "write" "Writer.write" (mS 42 6) .none (sv "clausemill.writer" 557) 391
noncomputable def ho443 (P : Params) : Obj := oTu #[(sv "self" 701), (sv "k" 702), (sv "text" 703)]
noncomputable def ho445 (P : Params) : Obj := oFa "variable_text" "Writer.variable_text" (mS 42 7)
noncomputable def ho446 (P : Params) : Obj := oFc "variable_text" 698 "Writer.variable_text" 699 "/claim/cut.py" 700 312 2 393 (.ref 394) .none (.ref 395) (.ref 396) (.ref 397) 704 705
noncomputable def ho447 (P : Params) : Obj := oFb "variable_text" "Writer.variable_text" (mS 42 7) .none (sv "clausemill.writer" 557) 398
noncomputable def ho450 (P : Params) : Obj := oTu #[(sv "self" 710), (sv "term" 711)]
noncomputable def ho452 (P : Params) : Obj := oFa "is_numbered" "Writer.is_numbered" (mS 42 8)
noncomputable def ho453 (P : Params) : Obj := oFc "is_numbered" 707 "Writer.is_numbered" 708 "/claim/cut.py" 709 320 2 400 (.ref 401) .none (.ref 402) (.ref 403) (.ref 404) 712 713
noncomputable def ho454 (P : Params) : Obj := oFb "is_numbered" "Writer.is_numbered" (mS 42 8) .none (sv "clausemill.writer" 557) 405
noncomputable def ho457 (P : Params) : Obj := oTu #[(sv "self" 718), (sv "a" 719), (sv "alone" 720), (sv "text" 721)]
noncomputable def ho459 (P : Params) : Obj := oFa "write_atom" "Writer.write_atom" (mS 42 9)
noncomputable def ho460 (P : Params) : Obj := oFc "write_atom" 715 "Writer.write_atom" 716 "/claim/cut.py" 717 325 3 407 (.ref 408) .none (.ref 409) (.ref 410) (.ref 411) 722 723
noncomputable def ho461 (P : Params) : Obj := oFb "write_atom" "Writer.write_atom" (mS 42 9) .none (sv "clausemill.writer" 557) 412
noncomputable def ho464 (P : Params) : Obj := oTu #[(sv "self" 728), (sv "term" 729), (sv "items" 730), (sv "tail" 731), (sv "rows" 732), (sv "item" 733)]
noncomputable def ho466 (P : Params) : Obj := oFa "write_list" "Writer.write_list" (mS 42 10)
noncomputable def ho467 (P : Params) : Obj := oFc "write_list" 725 "Writer.write_list" 726 "/claim/cut.py" 727 334 2 414 (.ref 415) .none (.ref 416) (.ref 417) (.ref 418) 734 735
noncomputable def ho468 (P : Params) : Obj := oFb "write_list" "Writer.write_list" (mS 42 10) .none (sv "clausemill.writer" 557) 419
noncomputable def ho471 (P : Params) : Obj := oTu #[(sv "self" 740), (sv "term" 741), (sv "rows" 742), (sv "item" 743)]
noncomputable def ho473 (P : Params) : Obj := oFa "write_functional" "Writer.write_functional" (mS 42 11)
noncomputable def ho474 (P : Params) : Obj := oFc "write_functional" 737 "Writer.write_functional" 738 "/claim/cut.py" 739 348 2 421 (.ref 422) .none (.ref 423) (.ref 424) (.ref 425) 744 745
noncomputable def ho475 (P : Params) : Obj := oFb "write_functional" "Writer.write_functional" (mS 42 11) .none (sv "clausemill.writer" 557) 426
noncomputable def ho478 (P : Params) : Obj := oTu #[(sv "self" 750), (sv "term" 751), (sv "name" 752), (sv "args" 753), (sv "entry" 754)]
noncomputable def ho480 (P : Params) : Obj := oFa "shape" "Writer.shape" (mS 42 12)
noncomputable def ho481 (P : Params) : Obj := oFc "shape" 747 "Writer.shape" 748 "/claim/cut.py" 749 360 2 428 (.ref 429) .none (.ref 430) (.ref 431) (.ref 432) 755 756
noncomputable def ho482 (P : Params) : Obj := oFb "shape" "Writer.shape" (mS 42 12) .none (sv "clausemill.writer" 557) 433
noncomputable def ho485 (P : Params) : Obj := oTu #[(sv "self" 761), (sv "term" 762), (sv "shape" 763), (sv "most" 764), (sv "kind" 765), (sv "priority" 766), (sv "type_text" 767), (sv "left" 768), (sv "right" 769), (sv "name" 770), (sv "args" 771), (sv "rows" 772)]
noncomputable def ho487 (P : Params) : Obj := oFa "write_operation" "Writer.write_operation" (mS 42 13)
noncomputable def ho488 (P : Params) : Obj := oFc "write_operation" 758 "Writer.write_operation" 759 "/claim/cut.py" 760 382 4 435 (.ref 436) .none (.ref 437) (.ref 438) (.ref 439) 773 774
noncomputable def ho489 (P : Params) : Obj := oFb "write_operation" "Writer.write_operation" (mS 42 13) .none (sv "clausemill.writer" 557) 440
noncomputable def ho492 (P : Params) : Obj := oTu #[(sv "self" 779), (sv "operand" 780), (sv "priority" 781), (sv "most" 782), (sv "shape" 783)]
noncomputable def ho494 (P : Params) : Obj := oFa "left_limit" "Writer.left_limit" (mS 42 14)
noncomputable def ho495 (P : Params) : Obj := oFc "left_limit" 776 "Writer.left_limit" 777 "/claim/cut.py" 778 402 4 442 (.ref 443) .none (.ref 444) (.ref 445) (.ref 446) 784 785
noncomputable def ho496 (P : Params) : Obj := oFb "left_limit" "Writer.left_limit" (mS 42 14) .none (sv "clausemill.writer" 557) 447
noncomputable def ho499 (P : Params) : Obj := oTu #[(sv "self" 790), (sv "a" 791), (sv "text" 792)]
noncomputable def ho501 (P : Params) : Obj := oFa "prefix_operator" "Writer.prefix_operator" (mS 42 15)
noncomputable def ho502 (P : Params) : Obj := oFc "prefix_operator" 787 "Writer.prefix_operator" 788 "/claim/cut.py" 789 408 2 449 (.ref 450) .none (.ref 451) (.ref 452) (.ref 453) 793 794
noncomputable def ho503 (P : Params) : Obj := oFb "prefix_operator" "Writer.prefix_operator" (mS 42 15) .none (sv "clausemill.writer" 557) 454
noncomputable def ho506 (P : Params) : Obj := oTu #[(sv "self" 799), (sv "a" 800), (sv "text" 801)]
noncomputable def ho508 (P : Params) : Obj := oFa "infix_operator" "Writer.infix_operator" (mS 42 16)
noncomputable def ho509 (P : Params) : Obj := oFc "infix_operator" 796 "Writer.infix_operator" 797 "/claim/cut.py" 798 416 2 456 (.ref 457) .none (.ref 458) (.ref 459) (.ref 460) 802 803
noncomputable def ho510 (P : Params) : Obj := oFb "infix_operator" "Writer.infix_operator" (mS 42 16) .none (sv "clausemill.writer" 557) 461
noncomputable def ho513 (P : Params) : Obj := oTu #[(sv "self" 808), (sv "a" 809), (sv "text" 810)]
noncomputable def ho515 (P : Params) : Obj := oFa "postfix_operator" "Writer.postfix_operator" (mS 42 17)
noncomputable def ho516 (P : Params) : Obj := oFc "postfix_operator" 805 "Writer.postfix_operator" 806 "/claim/cut.py" 807 429 2 463 (.ref 464) .none (.ref 465) (.ref 466) (.ref 467) 811 812
noncomputable def ho517 (P : Params) : Obj := oFb "postfix_operator" "Writer.postfix_operator" (mS 42 17) .none (sv "clausemill.writer" 557) 468
noncomputable def ho518 (P : Params) : Obj := oTu #[(sv "ignore_ops" 814), (sv "last" 815), (sv "names" 816), (sv "numbervars" 817), (sv "operators" 818), (sv "out" 819), (sv "prefixed" 820), (sv "quoted" 821), (sv "symbols" 822), (sv "taken" 823), (sv "work" 824)]
noncomputable def ho519 (P : Params) : Obj := ⟨(.type "dict"), none, (.dict (#[kE P "__module__" 620 (sv "clausemill.writer" 557), kE P "__firstlineno__" 624 (.int 227 623), kE P "__init__" 639 (.ref 349), kE P "text" 652 (.ref 357), kE P "raw" 660 (.ref 364), kE P "token" 668 (.ref 371), kE P "needs_space" 676 (.ref 378), kE P "later" 685 (.ref 385), kE P "write" 697 (.ref 392), kE P "variable_text" 706 (.ref 399), kE P "is_numbered" 714 (.ref 406), kE P "write_atom" 724 (.ref 413), kE P "write_list" 736 (.ref 420), kE P "write_functional" 746 (.ref 427), kE P "shape" 757 (.ref 434), kE P "write_operation" 775 (.ref 441), kE P "left_limit" 786 (.ref 448), kE P "prefix_operator" 795 (.ref 455), kE P "infix_operator" 804 (.ref 462), kE P "postfix_operator" 813 (.ref 469), kE P "__static_attributes__" 825 (.ref 470), kE P "__dict__" 827 (.ref 473), kE P "__weakref__" 829 (.ref 474), kE P "__doc__" 830 .none]) 4), (#[])⟩
noncomputable def ho520 (P : Params) : Obj := ⟨(.type "type"), none, (.cls ⟨(so "Writer"), [(.type "object")], [(.ref 472), (.type "object")], 471, (so "Writer"), true, [], [], false, none, false⟩), (#[none, none, (some (sv "Writer" 613)), (some (sv "Writer" 621)), (some (.builtin "object.__new__")), (some (.bool true))])⟩
noncomputable def ho521 (P : Params) : Obj := ⟨(.type "getset_descriptor"), none, (.fields (#[(sv "__dict__" 826), (.ref 472), (.builtin "function.__dict__"), (.builtin "function.__dict__#set")])), (#[])⟩
noncomputable def ho522 (P : Params) : Obj := ⟨(.type "getset_descriptor"), none, (.fields (#[(sv "__weakref__" 828), (.ref 472), (.builtin "ExceptionGroup.__weakref__"), .none])), (#[])⟩
noncomputable def ho523 (P : Params) : Obj := ⟨(.type "super"), none, (.fields (#[(.ref 472), (.ref 472), (.ref 472)])), (#[])⟩
noncomputable def ho524 (P : Params) : Obj := ⟨(.type "builtin_function_or_method"), none, (.fields (#[(.builtin "object.__init_subclass__"), (.ref 472)])), (#[])⟩
noncomputable def ho608 (P : Params) : Obj := ⟨(.type "dict"), none, (.dict (#[kE P "__name__" 165 (sv "law_sa0155_02" 833), kE P "__doc__" 166 .none, kE P "__package__" 167 .none, kE P "__loader__" 168 (.builtin "__main__.__loader__#opaque"), kE P "__spec__" 169 .none, kE P "__annotations__" 170 (.ref 6), kE P "__builtins__" 171 (.ref 4), kE P "__file__" 173 (sv "/claim/cut.py" 172), kE P "__cached__" 174 .none, kE P "_wall" 193 (.ref 21), kE P "A_NIL" 197 (.int 0 196), kE P "A_MINUS" 199 (.int 3 198), kE P "A_COMMA" 201 (.int 7 200), kE P "A_BAR" 203 (.int 8 202), kE P "F_DOT" 205 (.int 0 204), kE P "F_CURLY" 207 (.int 9 206), kE P "F_VARNAME" 209 (.int 17 208), kE P "fixed_atoms" 215 (.ref 28), kE P "fixed_functors" 221 (.ref 35), kE P "Symbols" 340 (.ref 122), kE P "COMMA_PRIORITY" 344 (.int 1000 343), kE P "PREFIX_TYPES" 347 (.ref 127), kE P "INFIX_TYPES" 351 (.ref 128), kE P "POSTFIX_TYPES" 354 (.ref 129), kE P "standard_rows" 360 (.ref 136), kE P "fixity" 367 (.ref 143), kE P "bounds" 376 (.ref 150), kE P "OperatorTable" 476 (.ref 217), kE P "list_items" 486 (.ref 228), kE P "is_digit" 495 (.ref 235), kE P "is_small" 502 (.ref 242), kE P "is_capital" 509 (.ref 249), kE P "is_alnum" 516 (.ref 256), kE P "is_symbol" 523 (.ref 263), kE P "number_text" 533 (.ref 270), kE P "is_alnum_name" 541 (.ref 277), kE P "is_symbol_name" 549 (.ref 284), kE P "is_plain_name" 556 (.ref 291), kE P "WHOLE_PRIORITY" 560 (.int 1201 559), kE P "ARGUMENT_PRIORITY" 562 (.int 999 561), kE P "escaped" 570 (.ref 298), kE P "quoted_text" 579 (.ref 305), kE P "atom_text" 589 (.ref 313), kE P "numbered_text" 597 (.ref 320), kE P "is_word" 605 (.ref 327), kE P "is_tight" 612 (.ref 334), kE P "Writer" 832 (.ref 472), kE P "_law_row" 845 (.ref 483), kE P "_law_next" 853 (.ref 490), kE P "_law_side" 860 (.ref 497), kE P "_law_sown" 873 (.ref 504), kE P "_law_entries" 884 (.ref 511), kE P "law" 890 (.ref 516)]) 53), (#[])⟩
noncomputable def ho609 (P : Params) : Obj := ⟨.none, none, (.fields (#[(.int 1 0), (.int 0 0), (.ref 20), (.int 12 0), (.int 0 0), (.ref 27), (.int 14 0), (.int 0 0), (.ref 34), (.int 16 0), (.int 0 0), (.ref 41), (.int 75 0), (.int 0 0), (.ref 135), (.int 77 0), (.int 0 0), (.ref 142), (.int 85 0), (.int 0 0), (.ref 149), (.int 100 0), (.int 0 0), (.ref 156), (.int 147 0), (.int 0 0), (.ref 227), (.int 154 0), (.int 0 0), (.ref 234), (.int 156 0), (.int 0 0), (.ref 241), (.int 158 0), (.int 0 0), (.ref 248), (.int 160 0), (.int 0 0), (.ref 255), (.int 162 0), (.int 0 0), (.ref 262), (.int 164 0), (.int 0 0), (.ref 269), (.int 174 0), (.int 0 0), (.ref 276), (.int 181 0), (.int 0 0), (.ref 283), (.int 188 0), (.int 0 0), (.ref 290), (.int 197 0), (.int 0 0), (.ref 297), (.int 206 0), (.int 0 0), (.ref 304), (.int 212 0), (.int 0 0), (.ref 312), (.int 217 0), (.int 0 0), (.ref 319), (.int 222 0), (.int 0 0), (.ref 326), (.int 225 0), (.int 0 0), (.ref 333), (.int 227 0), (.int 0 0), (.ref 340), (.int 437 0), (.int 0 0), (.ref 482), (.int 448 0), (.int 0 0), (.ref 489), (.int 450 0), (.int 0 0), (.ref 496), (.int 454 0), (.int 0 0), (.ref 503), (.int 471 0), (.int 0 0), (.ref 510), (.int 483 0), (.int 0 0), (.ref 515)])), (#[])⟩
noncomputable def ho612 (P : Params) : Obj := oTu #[(sv "script" 838), (sv "row" 839), (sv "cell" 840), (sv "rest" 841), (sv "turn" 842)]
noncomputable def ho614 (P : Params) : Obj := oFa "_law_row" "_law_row" (nS B0 44)
noncomputable def ho615 (P : Params) : Obj := oFc "_law_row" 835 "_law_row" 836 "/claim/cut.py" 837 437 1 477 (.ref 478) .none (.ref 479) (.ref 480) (.ref 481) 843 844
noncomputable def ho616 (P : Params) : Obj := oFb "_law_row" "_law_row" (nS B0 44) .none (sv "law_sa0155_02" 833) 482
noncomputable def ho619 (P : Params) : Obj := oTu #[(sv "row" 849), (sv "many" 850)]
noncomputable def ho621 (P : Params) : Obj := oFa "_law_next" "_law_next" (nS B0 45)
noncomputable def ho622 (P : Params) : Obj := oFc "_law_next" 846 "_law_next" 847 "/claim/cut.py" 848 448 2 484 (.ref 485) .none (.ref 486) (.ref 487) (.ref 488) 851 852
noncomputable def ho623 (P : Params) : Obj := oFb "_law_next" "_law_next" (nS B0 45) .none (sv "law_sa0155_02" 833) 489
noncomputable def ho626 (P : Params) : Obj := oTu #[(sv "kind" 857)]
noncomputable def ho628 (P : Params) : Obj := oFa "_law_side" "_law_side" (nS B0 46)
noncomputable def ho629 (P : Params) : Obj := oFc "_law_side" 854 "_law_side" 855 "/claim/cut.py" 856 450 1 491 (.ref 492) .none (.ref 493) (.ref 494) (.ref 495) 858 859
noncomputable def ho630 (P : Params) : Obj := oFb "_law_side" "_law_side" (nS B0 46) .none (sv "law_sa0155_02" 833) 496
noncomputable def ho633 (P : Params) : Obj := oTu #[(sv "row" 864), (sv "names" 865), (sv "words" 866), (sv "deep" 867), (sv "way" 868), (sv "first" 869), (sv "other" 870)]
noncomputable def ho635 (P : Params) : Obj := oFa "_law_sown" "_law_sown" (nS B0 47)
noncomputable def ho636 (P : Params) : Obj := oFc "_law_sown" 861 "_law_sown" 862 "/claim/cut.py" 863 454 4 498 (.ref 499) .none (.ref 500) (.ref 501) (.ref 502) 871 872
noncomputable def ho637 (P : Params) : Obj := oFb "_law_sown" "_law_sown" (nS B0 47) .none (sv "law_sa0155_02" 833) 503
noncomputable def ho640 (P : Params) : Obj := oTu #[(sv "names" 877), (sv "term" 878), (sv "met" 879), (sv "a" 880), (sv "part" 881)]
noncomputable def ho642 (P : Params) : Obj := oFa "_law_entries" "_law_entries" (nS B0 48)
noncomputable def ho643 (P : Params) : Obj := oFc "_law_entries" 874 "_law_entries" 875 "/claim/cut.py" 876 471 3 505 (.ref 506) .none (.ref 507) (.ref 508) (.ref 509) 882 883
noncomputable def ho644 (P : Params) : Obj := oFb "_law_entries" "_law_entries" (nS B0 48) .none (sv "law_sa0155_02" 833) 510
noncomputable def ho647 (P : Params) : Obj := oFa "law" "law" (nS B0 49)
noncomputable def ho648 (P : Params) : Obj := oFc "law" 885 "law" 886 "/claim/cut.py" 887 483 1 512 (.ref 513) .none .none .none (.ref 514) 888 889
noncomputable def ho649 (P : Params) : Obj := oFb "law" "law" (nS B0 49) .none (sv "law_sa0155_02" 833) 515
noncomputable def he41 : Env := ⟨(Module.scope (Program.main PR)), mainNs, mainNs, [], PySem.Str.empty, none, (.ref 13), (some (14 : Addr)), (0 : Addr)⟩
noncomputable def hh46 (P : Params) : Heap := ⟨⟨[(boot_o_0 P), (boot_o_1 P), (boot_o_2 P), (boot_o_3 P), (boot_o_4 P), (boot_o_5 P), (boot_o_6 P), (boot_o_7 P), (boot_o_8 P), (boot_o_9 P), (boot_o_10 P), (ho43 P), (ho44 P), (ho45 P), (ho46 P)]⟩, ⟨[], [], [], 0, [], [], false, (#[]), [], 0, false, false, false, (0 : Int), [(2000 : Int), (10 : Int), (10 : Int)], false, 0, true, [], [], 0, false⟩⟩
noncomputable def ht47 (P : Params) : BT := (.node (boot_o_0 P) (.node (boot_o_1 P) (.node (boot_o_3 P) (lf (boot_o_7 P)) (lf (ho43 P))) (.node (boot_o_5 P) (lf (boot_o_9 P)) (lf (ho45 P)))) (.node (boot_o_2 P) (.node (boot_o_4 P) (lf (boot_o_8 P)) (lf (ho44 P))) (.node (boot_o_6 P) (lf (boot_o_10 P)) (lf (ho46 P)))))
noncomputable def ht71 (P : Params) : BT := (.node (boot_o_0 P) (.node (boot_o_1 P) (.node (ho49 P) (.node (boot_o_7 P) (.node (ho43 P) (lf (ho43 P)) .nil) (lf (ho44 P))) (.node (ho43 P) (.node (ho55 P) (lf (ho71 P)) .nil) (lf (ho63 P)))) (.node (boot_o_5 P) (.node (boot_o_9 P) (.node (ho53 P) (lf (ho69 P)) .nil) (lf (ho43 P))) (.node (ho45 P) (lf (ho57 P)) (lf (ho43 P))))) (.node (boot_o_2 P) (.node (boot_o_4 P) (.node (boot_o_8 P) (.node (ho44 P) (lf (ho43 P)) .nil) (lf (ho43 P))) (.node (ho50 P) (lf (ho56 P)) (lf (ho64 P)))) (.node (boot_o_6 P) (.node (boot_o_10 P) (.node (ho43 P) (lf (ho70 P)) .nil) (lf (ho62 P))) (.node (ho46 P) (lf (ho43 P)) (lf (ho44 P))))))
noncomputable def ht164 (P : Params) : BT := (.node (boot_o_0 P) (.node (boot_o_1 P) (.node (ho72 P) (.node (boot_o_7 P) (.node (ho43 P) (.node (ho43 P) (lf (ho101 P)) (lf (ho43 P))) (.node (ho85 P) (lf (ho44 P)) (lf (ho149 P)))) (.node (ho44 P) (.node (ho43 P) (lf (ho43 P)) (lf (ho141 P))) (.node (ho93 P) (lf (ho125 P)) (lf (ho157 P))))) (.node (ho43 P) (.node (ho55 P) (.node (ho71 P) (lf (ho43 P)) (lf (ho43 P))) (.node (ho44 P) (lf (ho121 P)) (lf (ho153 P)))) (.node (ho63 P) (.node (ho43 P) (lf (ho113 P)) (lf (ho44 P))) (.node (ho97 P) (lf (ho129 P)) (lf (ho161 P)))))) (.node (boot_o_5 P) (.node (boot_o_9 P) (.node (ho53 P) (.node (ho69 P) (lf (ho44 P)) (lf (ho135 P))) (.node (ho87 P) (lf (ho43 P)) (lf (ho43 P)))) (.node (ho43 P) (.node (ho79 P) (lf (ho111 P)) (lf (ho143 P))) (.node (ho43 P) (lf (ho127 P)) (lf (ho159 P))))) (.node (ho45 P) (.node (ho57 P) (.node (ho75 P) (lf (ho107 P)) (lf (ho139 P))) (.node (ho43 P) (lf (ho43 P)) (lf (ho155 P)))) (.node (ho43 P) (.node (ho83 P) (lf (ho115 P)) (lf (ho43 P))) (.node (ho99 P) (lf (ho44 P)) (lf (ho163 P))))))) (.node (boot_o_2 P) (.node (boot_o_4 P) (.node (boot_o_8 P) (.node (ho44 P) (.node (ho43 P) (lf (ho43 P)) (lf (ho134 P))) (.node (ho86 P) (lf (ho118 P)) (lf (ho150 P)))) (.node (ho43 P) (.node (ho78 P) (lf (ho44 P)) (lf (ho142 P))) (.node (ho94 P) (lf (ho43 P)) (lf (ho158 P))))) (.node (ho73 P) (.node (ho56 P) (.node (ho43 P) (lf (ho106 P)) (lf (ho44 P))) (.node (ho90 P) (lf (ho122 P)) (lf (ho43 P)))) (.node (ho64 P) (.node (ho44 P) (lf (ho114 P)) (lf (ho146 P))) (.node (ho43 P) (lf (ho43 P)) (lf (ho162 P)))))) (.node (boot_o_6 P) (.node (boot_o_10 P) (.node (ho43 P) (.node (ho70 P) (lf (ho104 P)) (lf (ho136 P))) (.node (ho43 P) (lf (ho120 P)) (lf (ho44 P)))) (.node (ho62 P) (.node (ho80 P) (lf (ho43 P)) (lf (ho43 P))) (.node (ho44 P) (lf (ho128 P)) (lf (ho160 P))))) (.node (ho46 P) (.node (ho43 P) (.node (ho76 P) (lf (ho108 P)) (lf (ho43 P))) (.node (ho92 P) (lf (ho44 P)) (lf (ho156 P)))) (.node (ho44 P) (.node (ho43 P) (lf (ho43 P)) (lf (ho148 P))) (.node (ho100 P) (lf (ho132 P)) (lf (ho164 P))))))))
noncomputable def ht190 (P : Params) : BT := (.node (boot_o_0 P) (.node (boot_o_1 P) (.node (ho165 P) (.node (boot_o_7 P) (.node (ho43 P) (.node (ho43 P) (.node (ho101 P) (lf (ho167 P)) .nil) (lf (ho43 P))) (.node (ho85 P) (.node (ho44 P) (lf (ho183 P)) .nil) (lf (ho149 P)))) (.node (ho44 P) (.node (ho43 P) (.node (ho43 P) (lf (ho175 P)) .nil) (lf (ho141 P))) (.node (ho93 P) (lf (ho125 P)) (lf (ho157 P))))) (.node (ho43 P) (.node (ho55 P) (.node (ho71 P) (.node (ho43 P) (lf (ho44 P)) .nil) (lf (ho43 P))) (.node (ho44 P) (.node (ho121 P) (lf (ho43 P)) .nil) (lf (ho153 P)))) (.node (ho63 P) (.node (ho43 P) (.node (ho113 P) (lf (ho179 P)) .nil) (lf (ho44 P))) (.node (ho97 P) (lf (ho129 P)) (lf (ho161 P)))))) (.node (boot_o_5 P) (.node (boot_o_9 P) (.node (ho53 P) (.node (ho69 P) (.node (ho44 P) (lf (ho169 P)) .nil) (lf (ho135 P))) (.node (ho87 P) (.node (ho43 P) (lf (ho44 P)) .nil) (lf (ho43 P)))) (.node (ho43 P) (.node (ho79 P) (.node (ho111 P) (lf (ho43 P)) .nil) (lf (ho143 P))) (.node (ho43 P) (lf (ho127 P)) (lf (ho159 P))))) (.node (ho45 P) (.node (ho57 P) (.node (ho75 P) (.node (ho107 P) (lf (ho43 P)) .nil) (lf (ho139 P))) (.node (ho43 P) (.node (ho43 P) (lf (ho189 P)) .nil) (lf (ho155 P)))) (.node (ho43 P) (.node (ho83 P) (.node (ho115 P) (lf (ho181 P)) .nil) (lf (ho43 P))) (.node (ho99 P) (lf (ho44 P)) (lf (ho163 P))))))) (.node (boot_o_2 P) (.node (boot_o_4 P) (.node (boot_o_8 P) (.node (ho44 P) (.node (ho43 P) (.node (ho43 P) (lf (ho168 P)) .nil) (lf (ho134 P))) (.node (ho86 P) (.node (ho118 P) (lf (ho43 P)) .nil) (lf (ho150 P)))) (.node (ho43 P) (.node (ho78 P) (.node (ho44 P) (lf (ho176 P)) .nil) (lf (ho142 P))) (.node (ho94 P) (lf (ho43 P)) (lf (ho158 P))))) (.node (ho166 P) (.node (ho56 P) (.node (ho43 P) (.node (ho106 P) (lf (ho43 P)) .nil) (lf (ho44 P))) (.node (ho90 P) (.node (ho122 P) (lf (ho188 P)) .nil) (lf (ho43 P)))) (.node (ho64 P) (.node (ho44 P) (.node (ho114 P) (lf (ho43 P)) .nil) (lf (ho146 P))) (.node (ho43 P) (lf (ho43 P)) (lf (ho162 P)))))) (.node (boot_o_6 P) (.node (boot_o_10 P) (.node (ho43 P) (.node (ho70 P) (.node (ho104 P) (lf (ho43 P)) .nil) (lf (ho136 P))) (.node (ho43 P) (.node (ho120 P) (lf (ho186 P)) .nil) (lf (ho44 P)))) (.node (ho62 P) (.node (ho80 P) (.node (ho43 P) (lf (ho44 P)) .nil) (lf (ho43 P))) (.node (ho44 P) (lf (ho128 P)) (lf (ho160 P))))) (.node (ho46 P) (.node (ho43 P) (.node (ho76 P) (.node (ho108 P) (lf (ho174 P)) .nil) (lf (ho43 P))) (.node (ho92 P) (.node (ho44 P) (lf (ho190 P)) .nil) (lf (ho156 P)))) (.node (ho44 P) (.node (ho43 P) (.node (ho43 P) (lf (ho182 P)) .nil) (lf (ho148 P))) (.node (ho100 P) (lf (ho132 P)) (lf (ho164 P))))))))
noncomputable def ht263 (P : Params) : BT := (.node (boot_o_0 P) (.node (boot_o_1 P) (.node (ho191 P) (.node (boot_o_7 P) (.node (ho43 P) (.node (ho43 P) (.node (ho101 P) (lf (ho167 P)) (lf (ho233 P))) (.node (ho43 P) (lf (ho43 P)) .nil)) (.node (ho85 P) (.node (ho44 P) (lf (ho183 P)) (lf (ho249 P))) (.node (ho149 P) (lf (ho217 P)) .nil))) (.node (ho44 P) (.node (ho43 P) (.node (ho43 P) (lf (ho175 P)) (lf (ho241 P))) (.node (ho141 P) (lf (ho44 P)) .nil)) (.node (ho93 P) (.node (ho125 P) (lf (ho43 P)) (lf (ho257 P))) (.node (ho157 P) (lf (ho43 P)) .nil)))) (.node (ho43 P) (.node (ho55 P) (.node (ho71 P) (.node (ho43 P) (lf (ho44 P)) (lf (ho44 P))) (.node (ho43 P) (lf (ho205 P)) .nil)) (.node (ho44 P) (.node (ho121 P) (lf (ho43 P)) (lf (ho43 P))) (.node (ho153 P) (lf (ho221 P)) .nil))) (.node (ho63 P) (.node (ho43 P) (.node (ho113 P) (lf (ho179 P)) (lf (ho245 P))) (.node (ho44 P) (lf (ho213 P)) .nil)) (.node (ho97 P) (.node (ho129 P) (lf (ho197 P)) (lf (ho261 P))) (.node (ho161 P) (lf (ho43 P)) .nil))))) (.node (boot_o_5 P) (.node (boot_o_9 P) (.node (ho53 P) (.node (ho69 P) (.node (ho44 P) (lf (ho169 P)) (lf (ho235 P))) (.node (ho135 P) (lf (ho203 P)) .nil)) (.node (ho87 P) (.node (ho43 P) (lf (ho44 P)) (lf (ho44 P))) (.node (ho43 P) (lf (ho219 P)) .nil))) (.node (ho43 P) (.node (ho79 P) (.node (ho111 P) (lf (ho43 P)) (lf (ho43 P))) (.node (ho143 P) (lf (ho43 P)) .nil)) (.node (ho43 P) (.node (ho127 P) (lf (ho195 P)) (lf (ho259 P))) (.node (ho159 P) (lf (ho227 P)) .nil)))) (.node (ho45 P) (.node (ho57 P) (.node (ho75 P) (.node (ho107 P) (lf (ho43 P)) (lf (ho43 P))) (.node (ho139 P) (lf (ho207 P)) .nil)) (.node (ho43 P) (.node (ho43 P) (lf (ho189 P)) (lf (ho255 P))) (.node (ho155 P) (lf (ho44 P)) .nil))) (.node (ho43 P) (.node (ho83 P) (.node (ho115 P) (lf (ho181 P)) (lf (ho247 P))) (.node (ho43 P) (lf (ho43 P)) .nil)) (.node (ho99 P) (.node (ho44 P) (lf (ho199 P)) (lf (ho263 P))) (.node (ho163 P) (lf (ho231 P)) .nil)))))) (.node (boot_o_2 P) (.node (boot_o_4 P) (.node (boot_o_8 P) (.node (ho44 P) (.node (ho43 P) (.node (ho43 P) (lf (ho168 P)) (lf (ho234 P))) (.node (ho134 P) (lf (ho44 P)) .nil)) (.node (ho86 P) (.node (ho118 P) (lf (ho43 P)) (lf (ho43 P))) (.node (ho150 P) (lf (ho43 P)) .nil))) (.node (ho43 P) (.node (ho78 P) (.node (ho44 P) (lf (ho176 P)) (lf (ho242 P))) (.node (ho142 P) (lf (ho210 P)) .nil)) (.node (ho94 P) (.node (ho43 P) (lf (ho75 P)) (lf (ho258 P))) (.node (ho158 P) (lf (ho226 P)) .nil)))) (.node (ho192 P) (.node (ho56 P) (.node (ho43 P) (.node (ho106 P) (lf (ho43 P)) (lf (ho238 P))) (.node (ho44 P) (lf (ho206 P)) .nil)) (.node (ho90 P) (.node (ho122 P) (lf (ho188 P)) (lf (ho254 P))) (.node (ho43 P) (lf (ho43 P)) .nil))) (.node (ho64 P) (.node (ho44 P) (.node (ho114 P) (lf (ho43 P)) (lf (ho43 P))) (.node (ho146 P) (lf (ho214 P)) .nil)) (.node (ho43 P) (.node (ho43 P) (lf (ho198 P)) (lf (ho262 P))) (.node (ho162 P) (lf (ho44 P)) .nil))))) (.node (boot_o_6 P) (.node (boot_o_10 P) (.node (ho43 P) (.node (ho70 P) (.node (ho104 P) (lf (ho43 P)) (lf (ho43 P))) (.node (ho136 P) (lf (ho43 P)) .nil)) (.node (ho43 P) (.node (ho120 P) (lf (ho186 P)) (lf (ho252 P))) (.node (ho44 P) (lf (ho220 P)) .nil))) (.node (ho62 P) (.node (ho80 P) (.node (ho43 P) (lf (ho44 P)) (lf (ho44 P))) (.node (ho43 P) (lf (ho212 P)) .nil)) (.node (ho44 P) (.node (ho128 P) (lf (ho43 P)) (lf (ho260 P))) (.node (ho160 P) (lf (ho228 P)) .nil)))) (.node (ho46 P) (.node (ho43 P) (.node (ho76 P) (.node (ho108 P) (lf (ho174 P)) (lf (ho240 P))) (.node (ho43 P) (lf (ho43 P)) .nil)) (.node (ho92 P) (.node (ho44 P) (lf (ho190 P)) (lf (ho256 P))) (.node (ho156 P) (lf (ho224 P)) .nil))) (.node (ho44 P) (.node (ho43 P) (.node (ho43 P) (lf (ho182 P)) (lf (ho248 P))) (.node (ho148 P) (lf (ho44 P)) .nil)) (.node (ho100 P) (.node (ho132 P) (lf (ho200 P)) .nil) (.node (ho164 P) (lf (ho43 P)) .nil)))))))
noncomputable def ht342 (P : Params) : BT := (.node (boot_o_0 P) (.node (boot_o_1 P) (.node (ho264 P) (.node (boot_o_7 P) (.node (ho43 P) (.node (ho43 P) (.node (ho101 P) (.node (ho167 P) (lf (ho299 P)) .nil) (lf (ho233 P))) (.node (ho43 P) (.node (ho43 P) (lf (ho331 P)) .nil) (lf (ho44 P)))) (.node (ho85 P) (.node (ho44 P) (.node (ho183 P) (lf (ho43 P)) .nil) (lf (ho249 P))) (.node (ho149 P) (lf (ho217 P)) (lf (ho43 P))))) (.node (ho44 P) (.node (ho43 P) (.node (ho43 P) (.node (ho175 P) (lf (ho307 P)) .nil) (lf (ho241 P))) (.node (ho141 P) (.node (ho44 P) (lf (ho43 P)) .nil) (lf (ho275 P)))) (.node (ho93 P) (.node (ho125 P) (.node (ho43 P) (lf (ho44 P)) .nil) (lf (ho257 P))) (.node (ho157 P) (lf (ho43 P)) (lf (ho291 P)))))) (.node (ho43 P) (.node (ho55 P) (.node (ho71 P) (.node (ho43 P) (.node (ho44 P) (lf (ho303 P)) .nil) (lf (ho44 P))) (.node (ho43 P) (.node (ho205 P) (lf (ho335 P)) .nil) (lf (ho271 P)))) (.node (ho44 P) (.node (ho121 P) (.node (ho43 P) (lf (ho319 P)) .nil) (lf (ho43 P))) (.node (ho153 P) (lf (ho221 P)) (lf (ho43 P))))) (.node (ho63 P) (.node (ho43 P) (.node (ho113 P) (.node (ho179 P) (lf (ho43 P)) .nil) (lf (ho245 P))) (.node (ho44 P) (lf (ho213 P)) (lf (ho279 P)))) (.node (ho97 P) (.node (ho129 P) (.node (ho197 P) (lf (ho327 P)) .nil) (lf (ho261 P))) (.node (ho161 P) (lf (ho43 P)) (lf (ho44 P))))))) (.node (boot_o_5 P) (.node (boot_o_9 P) (.node (ho53 P) (.node (ho69 P) (.node (ho44 P) (.node (ho169 P) (lf (ho43 P)) .nil) (lf (ho235 P))) (.node (ho135 P) (.node (ho203 P) (lf (ho333 P)) .nil) (lf (ho43 P)))) (.node (ho87 P) (.node (ho43 P) (.node (ho44 P) (lf (ho317 P)) .nil) (lf (ho44 P))) (.node (ho43 P) (lf (ho219 P)) (lf (ho285 P))))) (.node (ho43 P) (.node (ho79 P) (.node (ho111 P) (.node (ho43 P) (lf (ho44 P)) .nil) (lf (ho43 P))) (.node (ho143 P) (.node (ho43 P) (lf (ho341 P)) .nil) (lf (ho277 P)))) (.node (ho43 P) (.node (ho127 P) (.node (ho195 P) (lf (ho43 P)) .nil) (lf (ho259 P))) (.node (ho159 P) (lf (ho227 P)) (lf (ho293 P)))))) (.node (ho45 P) (.node (ho57 P) (.node (ho75 P) (.node (ho107 P) (.node (ho43 P) (lf (ho305 P)) .nil) (lf (ho43 P))) (.node (ho139 P) (.node (ho207 P) (lf (ho44 P)) .nil) (lf (ho43 P)))) (.node (ho43 P) (.node (ho43 P) (.node (ho189 P) (lf (ho321 P)) .nil) (lf (ho255 P))) (.node (ho155 P) (lf (ho44 P)) (lf (ho289 P))))) (.node (ho43 P) (.node (ho83 P) (.node (ho115 P) (.node (ho181 P) (lf (ho313 P)) .nil) (lf (ho247 P))) (.node (ho43 P) (lf (ho43 P)) (lf (ho44 P)))) (.node (ho99 P) (.node (ho44 P) (.node (ho199 P) (lf (ho43 P)) .nil) (lf (ho263 P))) (.node (ho163 P) (lf (ho231 P)) (lf (ho43 P)))))))) (.node (boot_o_2 P) (.node (boot_o_4 P) (.node (boot_o_8 P) (.node (ho44 P) (.node (ho43 P) (.node (ho43 P) (.node (ho168 P) (lf (ho300 P)) .nil) (lf (ho234 P))) (.node (ho134 P) (.node (ho44 P) (lf (ho43 P)) .nil) (lf (ho268 P)))) (.node (ho86 P) (.node (ho118 P) (.node (ho43 P) (lf (ho44 P)) .nil) (lf (ho43 P))) (.node (ho150 P) (lf (ho43 P)) (lf (ho284 P))))) (.node (ho43 P) (.node (ho78 P) (.node (ho44 P) (.node (ho176 P) (lf (ho43 P)) .nil) (lf (ho242 P))) (.node (ho142 P) (.node (ho210 P) (lf (ho340 P)) .nil) (lf (ho43 P)))) (.node (ho94 P) (.node (ho43 P) (.node (ho75 P) (lf (ho324 P)) .nil) (lf (ho258 P))) (.node (ho158 P) (lf (ho226 P)) (lf (ho292 P)))))) (.node (ho265 P) (.node (ho56 P) (.node (ho43 P) (.node (ho106 P) (.node (ho43 P) (lf (ho43 P)) .nil) (lf (ho238 P))) (.node (ho44 P) (.node (ho206 P) (lf (ho43 P)) .nil) (lf (ho272 P)))) (.node (ho90 P) (.node (ho122 P) (.node (ho188 P) (lf (ho320 P)) .nil) (lf (ho254 P))) (.node (ho43 P) (lf (ho43 P)) (lf (ho44 P))))) (.node (ho64 P) (.node (ho44 P) (.node (ho114 P) (.node (ho43 P) (lf (ho312 P)) .nil) (lf (ho43 P))) (.node (ho146 P) (lf (ho214 P)) (lf (ho43 P)))) (.node (ho43 P) (.node (ho43 P) (.node (ho198 P) (lf (ho328 P)) .nil) (lf (ho262 P))) (.node (ho162 P) (lf (ho44 P)) (lf (ho296 P))))))) (.node (boot_o_6 P) (.node (boot_o_10 P) (.node (ho43 P) (.node (ho70 P) (.node (ho104 P) (.node (ho43 P) (lf (ho44 P)) .nil) (lf (ho43 P))) (.node (ho136 P) (.node (ho43 P) (lf (ho334 P)) .nil) (lf (ho270 P)))) (.node (ho43 P) (.node (ho120 P) (.node (ho186 P) (lf (ho43 P)) .nil) (lf (ho252 P))) (.node (ho44 P) (lf (ho220 P)) (lf (ho286 P))))) (.node (ho62 P) (.node (ho80 P) (.node (ho43 P) (.node (ho44 P) (lf (ho310 P)) .nil) (lf (ho44 P))) (.node (ho43 P) (.node (ho212 P) (lf (ho342 P)) .nil) (lf (ho278 P)))) (.node (ho44 P) (.node (ho128 P) (.node (ho43 P) (lf (ho326 P)) .nil) (lf (ho260 P))) (.node (ho160 P) (lf (ho228 P)) (lf (ho43 P)))))) (.node (ho46 P) (.node (ho43 P) (.node (ho76 P) (.node (ho108 P) (.node (ho174 P) (lf (ho306 P)) .nil) (lf (ho240 P))) (.node (ho43 P) (.node (ho43 P) (lf (ho338 P)) .nil) (lf (ho44 P)))) (.node (ho92 P) (.node (ho44 P) (.node (ho190 P) (lf (ho43 P)) .nil) (lf (ho256 P))) (.node (ho156 P) (lf (ho224 P)) (lf (ho43 P))))) (.node (ho44 P) (.node (ho43 P) (.node (ho43 P) (.node (ho182 P) (lf (ho314 P)) .nil) (lf (ho248 P))) (.node (ho148 P) (lf (ho44 P)) (lf (ho282 P)))) (.node (ho100 P) (.node (ho132 P) (.node (ho200 P) (lf (ho44 P)) .nil) (lf (ho43 P))) (.node (ho164 P) (lf (ho43 P)) (lf (ho298 P)))))))))
noncomputable def ht380 (P : Params) : BT := (.node (boot_o_0 P) (.node (boot_o_1 P) (.node (ho343 P) (.node (boot_o_7 P) (.node (ho43 P) (.node (ho43 P) (.node (ho101 P) (.node (ho167 P) (lf (ho299 P)) .nil) (.node (ho233 P) (lf (ho365 P)) .nil)) (.node (ho43 P) (.node (ho43 P) (lf (ho331 P)) .nil) (lf (ho44 P)))) (.node (ho85 P) (.node (ho44 P) (.node (ho183 P) (lf (ho43 P)) .nil) (lf (ho249 P))) (.node (ho149 P) (.node (ho217 P) (lf (ho349 P)) .nil) (lf (ho43 P))))) (.node (ho44 P) (.node (ho43 P) (.node (ho43 P) (.node (ho175 P) (lf (ho307 P)) .nil) (.node (ho241 P) (lf (ho373 P)) .nil)) (.node (ho141 P) (.node (ho44 P) (lf (ho43 P)) .nil) (lf (ho275 P)))) (.node (ho93 P) (.node (ho125 P) (.node (ho43 P) (lf (ho44 P)) .nil) (lf (ho257 P))) (.node (ho157 P) (.node (ho43 P) (lf (ho357 P)) .nil) (lf (ho291 P)))))) (.node (ho43 P) (.node (ho55 P) (.node (ho71 P) (.node (ho43 P) (.node (ho44 P) (lf (ho303 P)) .nil) (.node (ho44 P) (lf (ho369 P)) .nil)) (.node (ho43 P) (.node (ho205 P) (lf (ho335 P)) .nil) (lf (ho271 P)))) (.node (ho44 P) (.node (ho121 P) (.node (ho43 P) (lf (ho319 P)) .nil) (lf (ho43 P))) (.node (ho153 P) (.node (ho221 P) (lf (ho43 P)) .nil) (lf (ho43 P))))) (.node (ho63 P) (.node (ho43 P) (.node (ho113 P) (.node (ho179 P) (lf (ho43 P)) .nil) (.node (ho245 P) (lf (ho43 P)) .nil)) (.node (ho44 P) (.node (ho213 P) (lf (ho43 P)) .nil) (lf (ho279 P)))) (.node (ho97 P) (.node (ho129 P) (.node (ho197 P) (lf (ho327 P)) .nil) (lf (ho261 P))) (.node (ho161 P) (.node (ho43 P) (lf (ho44 P)) .nil) (lf (ho44 P))))))) (.node (boot_o_5 P) (.node (boot_o_9 P) (.node (ho53 P) (.node (ho69 P) (.node (ho44 P) (.node (ho169 P) (lf (ho43 P)) .nil) (.node (ho235 P) (lf (ho43 P)) .nil)) (.node (ho135 P) (.node (ho203 P) (lf (ho333 P)) .nil) (lf (ho43 P)))) (.node (ho87 P) (.node (ho43 P) (.node (ho44 P) (lf (ho317 P)) .nil) (lf (ho44 P))) (.node (ho43 P) (.node (ho219 P) (lf (ho351 P)) .nil) (lf (ho285 P))))) (.node (ho43 P) (.node (ho79 P) (.node (ho111 P) (.node (ho43 P) (lf (ho44 P)) .nil) (.node (ho43 P) (lf (ho44 P)) .nil)) (.node (ho143 P) (.node (ho43 P) (lf (ho341 P)) .nil) (lf (ho277 P)))) (.node (ho43 P) (.node (ho127 P) (.node (ho195 P) (lf (ho43 P)) .nil) (lf (ho259 P))) (.node (ho159 P) (.node (ho227 P) (lf (ho359 P)) .nil) (lf (ho293 P)))))) (.node (ho45 P) (.node (ho57 P) (.node (ho75 P) (.node (ho107 P) (.node (ho43 P) (lf (ho305 P)) .nil) (.node (ho43 P) (lf (ho371 P)) .nil)) (.node (ho139 P) (.node (ho207 P) (lf (ho44 P)) .nil) (lf (ho43 P)))) (.node (ho43 P) (.node (ho43 P) (.node (ho189 P) (lf (ho321 P)) .nil) (lf (ho255 P))) (.node (ho155 P) (.node (ho44 P) (lf (ho355 P)) .nil) (lf (ho289 P))))) (.node (ho43 P) (.node (ho83 P) (.node (ho115 P) (.node (ho181 P) (lf (ho313 P)) .nil) (.node (ho247 P) (lf (ho379 P)) .nil)) (.node (ho43 P) (.node (ho43 P) (lf (ho347 P)) .nil) (lf (ho44 P)))) (.node (ho99 P) (.node (ho44 P) (.node (ho199 P) (lf (ho43 P)) .nil) (lf (ho263 P))) (.node (ho163 P) (.node (ho231 P) (lf (ho43 P)) .nil) (lf (ho43 P)))))))) (.node (boot_o_2 P) (.node (boot_o_4 P) (.node (boot_o_8 P) (.node (ho44 P) (.node (ho43 P) (.node (ho43 P) (.node (ho168 P) (lf (ho300 P)) .nil) (.node (ho234 P) (lf (ho366 P)) .nil)) (.node (ho134 P) (.node (ho44 P) (lf (ho43 P)) .nil) (lf (ho268 P)))) (.node (ho86 P) (.node (ho118 P) (.node (ho43 P) (lf (ho44 P)) .nil) (lf (ho43 P))) (.node (ho150 P) (.node (ho43 P) (lf (ho350 P)) .nil) (lf (ho284 P))))) (.node (ho43 P) (.node (ho78 P) (.node (ho44 P) (.node (ho176 P) (lf (ho43 P)) .nil) (.node (ho242 P) (lf (ho43 P)) .nil)) (.node (ho142 P) (.node (ho210 P) (lf (ho340 P)) .nil) (lf (ho43 P)))) (.node (ho94 P) (.node (ho43 P) (.node (ho75 P) (lf (ho324 P)) .nil) (lf (ho258 P))) (.node (ho158 P) (.node (ho226 P) (lf (ho358 P)) .nil) (lf (ho292 P)))))) (.node (ho344 P) (.node (ho56 P) (.node (ho43 P) (.node (ho106 P) (.node (ho43 P) (lf (ho43 P)) .nil) (.node (ho238 P) (lf (ho43 P)) .nil)) (.node (ho44 P) (.node (ho206 P) (lf (ho43 P)) .nil) (lf (ho272 P)))) (.node (ho90 P) (.node (ho122 P) (.node (ho188 P) (lf (ho320 P)) .nil) (lf (ho254 P))) (.node (ho43 P) (.node (ho43 P) (lf (ho44 P)) .nil) (lf (ho44 P))))) (.node (ho64 P) (.node (ho44 P) (.node (ho114 P) (.node (ho43 P) (lf (ho312 P)) .nil) (.node (ho43 P) (lf (ho378 P)) .nil)) (.node (ho146 P) (.node (ho214 P) (lf (ho44 P)) .nil) (lf (ho43 P)))) (.node (ho43 P) (.node (ho43 P) (.node (ho198 P) (lf (ho328 P)) .nil) (lf (ho262 P))) (.node (ho162 P) (.node (ho44 P) (lf (ho362 P)) .nil) (lf (ho296 P))))))) (.node (boot_o_6 P) (.node (boot_o_10 P) (.node (ho43 P) (.node (ho70 P) (.node (ho104 P) (.node (ho43 P) (lf (ho44 P)) .nil) (.node (ho43 P) (lf (ho44 P)) .nil)) (.node (ho136 P) (.node (ho43 P) (lf (ho334 P)) .nil) (lf (ho270 P)))) (.node (ho43 P) (.node (ho120 P) (.node (ho186 P) (lf (ho43 P)) .nil) (lf (ho252 P))) (.node (ho44 P) (.node (ho220 P) (lf (ho200 P)) .nil) (lf (ho286 P))))) (.node (ho62 P) (.node (ho80 P) (.node (ho43 P) (.node (ho44 P) (lf (ho310 P)) .nil) (.node (ho44 P) (lf (ho376 P)) .nil)) (.node (ho43 P) (.node (ho212 P) (lf (ho342 P)) .nil) (lf (ho278 P)))) (.node (ho44 P) (.node (ho128 P) (.node (ho43 P) (lf (ho326 P)) .nil) (lf (ho260 P))) (.node (ho160 P) (.node (ho228 P) (lf (ho43 P)) .nil) (lf (ho43 P)))))) (.node (ho46 P) (.node (ho43 P) (.node (ho76 P) (.node (ho108 P) (.node (ho174 P) (lf (ho306 P)) .nil) (.node (ho240 P) (lf (ho372 P)) .nil)) (.node (ho43 P) (.node (ho43 P) (lf (ho338 P)) .nil) (lf (ho44 P)))) (.node (ho92 P) (.node (ho44 P) (.node (ho190 P) (lf (ho43 P)) .nil) (lf (ho256 P))) (.node (ho156 P) (.node (ho224 P) (lf (ho43 P)) .nil) (lf (ho43 P))))) (.node (ho44 P) (.node (ho43 P) (.node (ho43 P) (.node (ho182 P) (lf (ho314 P)) .nil) (.node (ho248 P) (lf (ho380 P)) .nil)) (.node (ho148 P) (.node (ho44 P) (lf (ho43 P)) .nil) (lf (ho282 P)))) (.node (ho100 P) (.node (ho132 P) (.node (ho200 P) (lf (ho44 P)) .nil) (lf (ho43 P))) (.node (ho164 P) (.node (ho43 P) (lf (ho364 P)) .nil) (lf (ho298 P)))))))))
noncomputable def ht524 (P : Params) : BT := (.node (boot_o_0 P) (.node (boot_o_1 P) (.node (ho381 P) (.node (boot_o_7 P) (.node (ho43 P) (.node (ho43 P) (.node (ho101 P) (.node (ho167 P) (lf (ho299 P)) (lf (ho431 P))) (.node (ho233 P) (lf (ho365 P)) (lf (ho495 P)))) (.node (ho43 P) (.node (ho43 P) (lf (ho331 P)) (lf (ho44 P))) (.node (ho44 P) (lf (ho43 P)) .nil))) (.node (ho85 P) (.node (ho44 P) (.node (ho183 P) (lf (ho43 P)) (lf (ho447 P))) (.node (ho249 P) (lf (ho43 P)) (lf (ho43 P)))) (.node (ho149 P) (.node (ho217 P) (lf (ho349 P)) (lf (ho43 P))) (.node (ho43 P) (lf (ho415 P)) .nil)))) (.node (ho44 P) (.node (ho43 P) (.node (ho43 P) (.node (ho175 P) (lf (ho307 P)) (lf (ho439 P))) (.node (ho241 P) (lf (ho373 P)) (lf (ho503 P)))) (.node (ho141 P) (.node (ho44 P) (lf (ho43 P)) (lf (ho471 P))) (.node (ho275 P) (lf (ho44 P)) .nil))) (.node (ho93 P) (.node (ho125 P) (.node (ho43 P) (lf (ho44 P)) (lf (ho43 P))) (.node (ho257 P) (lf (ho43 P)) (lf (ho519 P)))) (.node (ho157 P) (.node (ho43 P) (lf (ho357 P)) (lf (ho487 P))) (.node (ho291 P) (lf (ho43 P)) .nil))))) (.node (ho43 P) (.node (ho55 P) (.node (ho71 P) (.node (ho43 P) (.node (ho44 P) (lf (ho303 P)) (lf (ho44 P))) (.node (ho44 P) (lf (ho369 P)) (lf (ho499 P)))) (.node (ho43 P) (.node (ho205 P) (lf (ho335 P)) (lf (ho467 P))) (.node (ho271 P) (lf (ho403 P)) .nil))) (.node (ho44 P) (.node (ho121 P) (.node (ho43 P) (lf (ho319 P)) (lf (ho43 P))) (.node (ho43 P) (lf (ho387 P)) (lf (ho515 P)))) (.node (ho153 P) (.node (ho221 P) (lf (ho43 P)) (lf (ho43 P))) (.node (ho43 P) (lf (ho419 P)) .nil)))) (.node (ho63 P) (.node (ho43 P) (.node (ho113 P) (.node (ho179 P) (lf (ho43 P)) (lf (ho443 P))) (.node (ho245 P) (lf (ho43 P)) (lf (ho43 P)))) (.node (ho44 P) (.node (ho213 P) (lf (ho43 P)) (lf (ho475 P))) (.node (ho279 P) (lf (ho411 P)) .nil))) (.node (ho97 P) (.node (ho129 P) (.node (ho197 P) (lf (ho327 P)) (lf (ho459 P))) (.node (ho261 P) (lf (ho395 P)) (lf (ho523 P)))) (.node (ho161 P) (.node (ho43 P) (lf (ho44 P)) (lf (ho44 P))) (.node (ho44 P) (lf (ho43 P)) .nil)))))) (.node (boot_o_5 P) (.node (boot_o_9 P) (.node (ho53 P) (.node (ho69 P) (.node (ho44 P) (.node (ho169 P) (lf (ho43 P)) (lf (ho433 P))) (.node (ho235 P) (lf (ho43 P)) (lf (ho43 P)))) (.node (ho135 P) (.node (ho203 P) (lf (ho333 P)) (lf (ho43 P))) (.node (ho43 P) (lf (ho401 P)) .nil))) (.node (ho87 P) (.node (ho43 P) (.node (ho44 P) (lf (ho317 P)) (lf (ho44 P))) (.node (ho44 P) (lf (ho385 P)) (lf (ho513 P)))) (.node (ho43 P) (.node (ho219 P) (lf (ho351 P)) (lf (ho481 P))) (.node (ho285 P) (lf (ho417 P)) .nil)))) (.node (ho43 P) (.node (ho79 P) (.node (ho111 P) (.node (ho43 P) (lf (ho44 P)) (lf (ho43 P))) (.node (ho43 P) (lf (ho44 P)) (lf (ho44 P)))) (.node (ho143 P) (.node (ho43 P) (lf (ho341 P)) (lf (ho473 P))) (.node (ho277 P) (lf (ho43 P)) .nil))) (.node (ho43 P) (.node (ho127 P) (.node (ho195 P) (lf (ho43 P)) (lf (ho457 P))) (.node (ho259 P) (lf (ho393 P)) (lf (ho521 P)))) (.node (ho159 P) (.node (ho227 P) (lf (ho359 P)) (lf (ho489 P))) (.node (ho293 P) (lf (ho425 P)) .nil))))) (.node (ho45 P) (.node (ho57 P) (.node (ho75 P) (.node (ho107 P) (.node (ho43 P) (lf (ho305 P)) (lf (ho43 P))) (.node (ho43 P) (lf (ho371 P)) (lf (ho501 P)))) (.node (ho139 P) (.node (ho207 P) (lf (ho44 P)) (lf (ho43 P))) (.node (ho43 P) (lf (ho405 P)) .nil))) (.node (ho43 P) (.node (ho43 P) (.node (ho189 P) (lf (ho321 P)) (lf (ho453 P))) (.node (ho255 P) (lf (ho389 P)) (lf (ho517 P)))) (.node (ho155 P) (.node (ho44 P) (lf (ho355 P)) (lf (ho485 P))) (.node (ho289 P) (lf (ho44 P)) .nil)))) (.node (ho43 P) (.node (ho83 P) (.node (ho115 P) (.node (ho181 P) (lf (ho313 P)) (lf (ho445 P))) (.node (ho247 P) (lf (ho379 P)) (lf (ho509 P)))) (.node (ho43 P) (.node (ho43 P) (lf (ho347 P)) (lf (ho44 P))) (.node (ho44 P) (lf (ho43 P)) .nil))) (.node (ho99 P) (.node (ho44 P) (.node (ho199 P) (lf (ho43 P)) (lf (ho461 P))) (.node (ho263 P) (lf (ho397 P)) .nil)) (.node (ho163 P) (.node (ho231 P) (lf (ho43 P)) (lf (ho43 P))) (.node (ho43 P) (lf (ho429 P)) .nil))))))) (.node (boot_o_2 P) (.node (boot_o_4 P) (.node (boot_o_8 P) (.node (ho44 P) (.node (ho43 P) (.node (ho43 P) (.node (ho168 P) (lf (ho300 P)) (lf (ho432 P))) (.node (ho234 P) (lf (ho366 P)) (lf (ho496 P)))) (.node (ho134 P) (.node (ho44 P) (lf (ho43 P)) (lf (ho464 P))) (.node (ho268 P) (lf (ho44 P)) .nil))) (.node (ho86 P) (.node (ho118 P) (.node (ho43 P) (lf (ho44 P)) (lf (ho43 P))) (.node (ho43 P) (lf (ho75 P)) (lf (ho44 P)))) (.node (ho150 P) (.node (ho43 P) (lf (ho350 P)) (lf (ho480 P))) (.node (ho284 P) (lf (ho43 P)) .nil)))) (.node (ho43 P) (.node (ho78 P) (.node (ho44 P) (.node (ho176 P) (lf (ho43 P)) (lf (ho440 P))) (.node (ho242 P) (lf (ho43 P)) (lf (ho43 P)))) (.node (ho142 P) (.node (ho210 P) (lf (ho340 P)) (lf (ho43 P))) (.node (ho43 P) (lf (ho408 P)) .nil))) (.node (ho94 P) (.node (ho43 P) (.node (ho75 P) (lf (ho324 P)) (lf (ho44 P))) (.node (ho258 P) (lf (ho44 P)) (lf (ho520 P)))) (.node (ho158 P) (.node (ho226 P) (lf (ho358 P)) (lf (ho488 P))) (.node (ho292 P) (lf (ho424 P)) .nil))))) (.node (ho382 P) (.node (ho56 P) (.node (ho43 P) (.node (ho106 P) (.node (ho43 P) (lf (ho43 P)) (lf (ho436 P))) (.node (ho238 P) (lf (ho43 P)) (lf (ho43 P)))) (.node (ho44 P) (.node (ho206 P) (lf (ho43 P)) (lf (ho468 P))) (.node (ho272 P) (lf (ho404 P)) .nil))) (.node (ho90 P) (.node (ho122 P) (.node (ho188 P) (lf (ho320 P)) (lf (ho452 P))) (.node (ho254 P) (lf (ho388 P)) (lf (ho516 P)))) (.node (ho43 P) (.node (ho43 P) (lf (ho44 P)) (lf (ho44 P))) (.node (ho44 P) (lf (ho43 P)) .nil)))) (.node (ho64 P) (.node (ho44 P) (.node (ho114 P) (.node (ho43 P) (lf (ho312 P)) (lf (ho43 P))) (.node (ho43 P) (lf (ho378 P)) (lf (ho508 P)))) (.node (ho146 P) (.node (ho214 P) (lf (ho44 P)) (lf (ho43 P))) (.node (ho43 P) (lf (ho412 P)) .nil))) (.node (ho43 P) (.node (ho43 P) (.node (ho198 P) (lf (ho328 P)) (lf (ho460 P))) (.node (ho262 P) (lf (ho396 P)) (lf (ho524 P)))) (.node (ho162 P) (.node (ho44 P) (lf (ho362 P)) (lf (ho492 P))) (.node (ho296 P) (lf (ho44 P)) .nil)))))) (.node (boot_o_6 P) (.node (boot_o_10 P) (.node (ho43 P) (.node (ho70 P) (.node (ho104 P) (.node (ho43 P) (lf (ho44 P)) (lf (ho43 P))) (.node (ho43 P) (lf (ho44 P)) (lf (ho44 P)))) (.node (ho136 P) (.node (ho43 P) (lf (ho334 P)) (lf (ho466 P))) (.node (ho270 P) (lf (ho43 P)) .nil))) (.node (ho43 P) (.node (ho120 P) (.node (ho186 P) (lf (ho43 P)) (lf (ho450 P))) (.node (ho252 P) (lf (ho43 P)) (lf (ho43 P)))) (.node (ho44 P) (.node (ho220 P) (lf (ho200 P)) (lf (ho482 P))) (.node (ho286 P) (lf (ho418 P)) .nil)))) (.node (ho62 P) (.node (ho80 P) (.node (ho43 P) (.node (ho44 P) (lf (ho310 P)) (lf (ho44 P))) (.node (ho44 P) (lf (ho376 P)) (lf (ho506 P)))) (.node (ho43 P) (.node (ho212 P) (lf (ho342 P)) (lf (ho474 P))) (.node (ho278 P) (lf (ho410 P)) .nil))) (.node (ho44 P) (.node (ho128 P) (.node (ho43 P) (lf (ho326 P)) (lf (ho43 P))) (.node (ho260 P) (lf (ho43 P)) (lf (ho522 P)))) (.node (ho160 P) (.node (ho228 P) (lf (ho43 P)) (lf (ho43 P))) (.node (ho43 P) (lf (ho426 P)) .nil))))) (.node (ho46 P) (.node (ho43 P) (.node (ho76 P) (.node (ho108 P) (.node (ho174 P) (lf (ho306 P)) (lf (ho438 P))) (.node (ho240 P) (lf (ho372 P)) (lf (ho502 P)))) (.node (ho43 P) (.node (ho43 P) (lf (ho338 P)) (lf (ho44 P))) (.node (ho44 P) (lf (ho43 P)) .nil))) (.node (ho92 P) (.node (ho44 P) (.node (ho190 P) (lf (ho43 P)) (lf (ho454 P))) (.node (ho256 P) (lf (ho390 P)) (lf (ho518 P)))) (.node (ho156 P) (.node (ho224 P) (lf (ho43 P)) (lf (ho43 P))) (.node (ho43 P) (lf (ho422 P)) .nil)))) (.node (ho44 P) (.node (ho43 P) (.node (ho43 P) (.node (ho182 P) (lf (ho314 P)) (lf (ho446 P))) (.node (ho248 P) (lf (ho380 P)) (lf (ho510 P)))) (.node (ho148 P) (.node (ho44 P) (lf (ho43 P)) (lf (ho478 P))) (.node (ho282 P) (lf (ho44 P)) .nil))) (.node (ho100 P) (.node (ho132 P) (.node (ho200 P) (lf (ho44 P)) (lf (ho43 P))) (.node (ho43 P) (lf (ho398 P)) .nil)) (.node (ho164 P) (.node (ho43 P) (lf (ho364 P)) (lf (ho494 P))) (.node (ho298 P) (lf (ho43 P)) .nil))))))))
noncomputable def ht649 (P : Params) : BT := (.node (boot_o_0 P) (.node (boot_o_1 P) (.node (ho608 P) (.node (boot_o_7 P) (.node (ho43 P) (.node (ho43 P) (.node (ho101 P) (.node (ho167 P) (.node (ho299 P) (lf (ho644 P)) .nil) (lf (ho431 P))) (.node (ho233 P) (lf (ho365 P)) (lf (ho495 P)))) (.node (ho43 P) (.node (ho43 P) (lf (ho331 P)) (lf (ho44 P))) (.node (ho44 P) (lf (ho43 P)) (lf (ho612 P))))) (.node (ho85 P) (.node (ho44 P) (.node (ho183 P) (lf (ho43 P)) (lf (ho447 P))) (.node (ho249 P) (lf (ho43 P)) (lf (ho43 P)))) (.node (ho149 P) (.node (ho217 P) (lf (ho349 P)) (lf (ho43 P))) (.node (ho43 P) (lf (ho415 P)) (lf (ho628 P)))))) (.node (ho44 P) (.node (ho43 P) (.node (ho43 P) (.node (ho175 P) (lf (ho307 P)) (lf (ho439 P))) (.node (ho241 P) (lf (ho373 P)) (lf (ho503 P)))) (.node (ho141 P) (.node (ho44 P) (lf (ho43 P)) (lf (ho471 P))) (.node (ho275 P) (lf (ho44 P)) (lf (ho43 P))))) (.node (ho93 P) (.node (ho125 P) (.node (ho43 P) (lf (ho44 P)) (lf (ho43 P))) (.node (ho257 P) (lf (ho43 P)) (lf (ho519 P)))) (.node (ho157 P) (.node (ho43 P) (lf (ho357 P)) (lf (ho487 P))) (.node (ho291 P) (lf (ho43 P)) (lf (ho636 P))))))) (.node (ho43 P) (.node (ho55 P) (.node (ho71 P) (.node (ho43 P) (.node (ho44 P) (.node (ho303 P) (lf (ho648 P)) .nil) (lf (ho44 P))) (.node (ho44 P) (lf (ho369 P)) (lf (ho499 P)))) (.node (ho43 P) (.node (ho205 P) (lf (ho335 P)) (lf (ho467 P))) (.node (ho271 P) (lf (ho403 P)) (lf (ho616 P))))) (.node (ho44 P) (.node (ho121 P) (.node (ho43 P) (lf (ho319 P)) (lf (ho43 P))) (.node (ho43 P) (lf (ho387 P)) (lf (ho515 P)))) (.node (ho153 P) (.node (ho221 P) (lf (ho43 P)) (lf (ho43 P))) (.node (ho43 P) (lf (ho419 P)) (lf (ho44 P)))))) (.node (ho63 P) (.node (ho43 P) (.node (ho113 P) (.node (ho179 P) (lf (ho43 P)) (lf (ho443 P))) (.node (ho245 P) (lf (ho43 P)) (lf (ho43 P)))) (.node (ho44 P) (.node (ho213 P) (lf (ho43 P)) (lf (ho475 P))) (.node (ho279 P) (lf (ho411 P)) (lf (ho43 P))))) (.node (ho97 P) (.node (ho129 P) (.node (ho197 P) (lf (ho327 P)) (lf (ho459 P))) (.node (ho261 P) (lf (ho395 P)) (lf (ho523 P)))) (.node (ho161 P) (.node (ho43 P) (lf (ho44 P)) (lf (ho44 P))) (.node (ho44 P) (lf (ho43 P)) (lf (ho640 P)))))))) (.node (boot_o_5 P) (.node (boot_o_9 P) (.node (ho53 P) (.node (ho69 P) (.node (ho44 P) (.node (ho169 P) (.node (ho43 P) (lf (ho44 P)) .nil) (lf (ho433 P))) (.node (ho235 P) (lf (ho43 P)) (lf (ho43 P)))) (.node (ho135 P) (.node (ho203 P) (lf (ho333 P)) (lf (ho43 P))) (.node (ho43 P) (lf (ho401 P)) (lf (ho614 P))))) (.node (ho87 P) (.node (ho43 P) (.node (ho44 P) (lf (ho317 P)) (lf (ho44 P))) (.node (ho44 P) (lf (ho385 P)) (lf (ho513 P)))) (.node (ho43 P) (.node (ho219 P) (lf (ho351 P)) (lf (ho481 P))) (.node (ho285 P) (lf (ho417 P)) (lf (ho630 P)))))) (.node (ho43 P) (.node (ho79 P) (.node (ho111 P) (.node (ho43 P) (lf (ho44 P)) (lf (ho43 P))) (.node (ho43 P) (lf (ho44 P)) (lf (ho44 P)))) (.node (ho143 P) (.node (ho43 P) (lf (ho341 P)) (lf (ho473 P))) (.node (ho277 P) (lf (ho43 P)) (lf (ho622 P))))) (.node (ho43 P) (.node (ho127 P) (.node (ho195 P) (lf (ho43 P)) (lf (ho457 P))) (.node (ho259 P) (lf (ho393 P)) (lf (ho521 P)))) (.node (ho159 P) (.node (ho227 P) (lf (ho359 P)) (lf (ho489 P))) (.node (ho293 P) (lf (ho425 P)) (lf (ho43 P))))))) (.node (ho45 P) (.node (ho57 P) (.node (ho75 P) (.node (ho107 P) (.node (ho43 P) (lf (ho305 P)) (lf (ho43 P))) (.node (ho43 P) (lf (ho371 P)) (lf (ho501 P)))) (.node (ho139 P) (.node (ho207 P) (lf (ho44 P)) (lf (ho43 P))) (.node (ho43 P) (lf (ho405 P)) (lf (ho44 P))))) (.node (ho43 P) (.node (ho43 P) (.node (ho189 P) (lf (ho321 P)) (lf (ho453 P))) (.node (ho255 P) (lf (ho389 P)) (lf (ho517 P)))) (.node (ho155 P) (.node (ho44 P) (lf (ho355 P)) (lf (ho485 P))) (.node (ho289 P) (lf (ho44 P)) (lf (ho43 P)))))) (.node (ho43 P) (.node (ho83 P) (.node (ho115 P) (.node (ho181 P) (lf (ho313 P)) (lf (ho445 P))) (.node (ho247 P) (lf (ho379 P)) (lf (ho509 P)))) (.node (ho43 P) (.node (ho43 P) (lf (ho347 P)) (lf (ho44 P))) (.node (ho44 P) (lf (ho43 P)) (lf (ho626 P))))) (.node (ho99 P) (.node (ho44 P) (.node (ho199 P) (lf (ho43 P)) (lf (ho461 P))) (.node (ho263 P) (lf (ho397 P)) (lf (ho43 P)))) (.node (ho163 P) (.node (ho231 P) (lf (ho43 P)) (lf (ho43 P))) (.node (ho43 P) (lf (ho429 P)) (lf (ho642 P))))))))) (.node (boot_o_2 P) (.node (boot_o_4 P) (.node (boot_o_8 P) (.node (ho44 P) (.node (ho43 P) (.node (ho43 P) (.node (ho168 P) (.node (ho300 P) (lf (ho43 P)) .nil) (lf (ho432 P))) (.node (ho234 P) (lf (ho366 P)) (lf (ho496 P)))) (.node (ho134 P) (.node (ho44 P) (lf (ho43 P)) (lf (ho464 P))) (.node (ho268 P) (lf (ho44 P)) (lf (ho43 P))))) (.node (ho86 P) (.node (ho118 P) (.node (ho43 P) (lf (ho44 P)) (lf (ho43 P))) (.node (ho43 P) (lf (ho75 P)) (lf (ho44 P)))) (.node (ho150 P) (.node (ho43 P) (lf (ho350 P)) (lf (ho480 P))) (.node (ho284 P) (lf (ho43 P)) (lf (ho629 P)))))) (.node (ho43 P) (.node (ho78 P) (.node (ho44 P) (.node (ho176 P) (lf (ho43 P)) (lf (ho440 P))) (.node (ho242 P) (lf (ho43 P)) (lf (ho43 P)))) (.node (ho142 P) (.node (ho210 P) (lf (ho340 P)) (lf (ho43 P))) (.node (ho43 P) (lf (ho408 P)) (lf (ho621 P))))) (.node (ho94 P) (.node (ho43 P) (.node (ho75 P) (lf (ho324 P)) (lf (ho44 P))) (.node (ho258 P) (lf (ho44 P)) (lf (ho520 P)))) (.node (ho158 P) (.node (ho226 P) (lf (ho358 P)) (lf (ho488 P))) (.node (ho292 P) (lf (ho424 P)) (lf (ho637 P))))))) (.node (ho609 P) (.node (ho56 P) (.node (ho43 P) (.node (ho106 P) (.node (ho43 P) (.node (ho43 P) (lf (ho649 P)) .nil) (lf (ho436 P))) (.node (ho238 P) (lf (ho43 P)) (lf (ho43 P)))) (.node (ho44 P) (.node (ho206 P) (lf (ho43 P)) (lf (ho468 P))) (.node (ho272 P) (lf (ho404 P)) (lf (ho43 P))))) (.node (ho90 P) (.node (ho122 P) (.node (ho188 P) (lf (ho320 P)) (lf (ho452 P))) (.node (ho254 P) (lf (ho388 P)) (lf (ho516 P)))) (.node (ho43 P) (.node (ho43 P) (lf (ho44 P)) (lf (ho44 P))) (.node (ho44 P) (lf (ho43 P)) (lf (ho633 P)))))) (.node (ho64 P) (.node (ho44 P) (.node (ho114 P) (.node (ho43 P) (lf (ho312 P)) (lf (ho43 P))) (.node (ho43 P) (lf (ho378 P)) (lf (ho508 P)))) (.node (ho146 P) (.node (ho214 P) (lf (ho44 P)) (lf (ho43 P))) (.node (ho43 P) (lf (ho412 P)) (lf (ho44 P))))) (.node (ho43 P) (.node (ho43 P) (.node (ho198 P) (lf (ho328 P)) (lf (ho460 P))) (.node (ho262 P) (lf (ho396 P)) (lf (ho524 P)))) (.node (ho162 P) (.node (ho44 P) (lf (ho362 P)) (lf (ho492 P))) (.node (ho296 P) (lf (ho44 P)) (lf (ho43 P)))))))) (.node (boot_o_6 P) (.node (boot_o_10 P) (.node (ho43 P) (.node (ho70 P) (.node (ho104 P) (.node (ho43 P) (.node (ho44 P) (lf (ho647 P)) .nil) (lf (ho43 P))) (.node (ho43 P) (lf (ho44 P)) (lf (ho44 P)))) (.node (ho136 P) (.node (ho43 P) (lf (ho334 P)) (lf (ho466 P))) (.node (ho270 P) (lf (ho43 P)) (lf (ho615 P))))) (.node (ho43 P) (.node (ho120 P) (.node (ho186 P) (lf (ho43 P)) (lf (ho450 P))) (.node (ho252 P) (lf (ho43 P)) (lf (ho43 P)))) (.node (ho44 P) (.node (ho220 P) (lf (ho200 P)) (lf (ho482 P))) (.node (ho286 P) (lf (ho418 P)) (lf (ho43 P)))))) (.node (ho62 P) (.node (ho80 P) (.node (ho43 P) (.node (ho44 P) (lf (ho310 P)) (lf (ho44 P))) (.node (ho44 P) (lf (ho376 P)) (lf (ho506 P)))) (.node (ho43 P) (.node (ho212 P) (lf (ho342 P)) (lf (ho474 P))) (.node (ho278 P) (lf (ho410 P)) (lf (ho623 P))))) (.node (ho44 P) (.node (ho128 P) (.node (ho43 P) (lf (ho326 P)) (lf (ho43 P))) (.node (ho260 P) (lf (ho43 P)) (lf (ho522 P)))) (.node (ho160 P) (.node (ho228 P) (lf (ho43 P)) (lf (ho43 P))) (.node (ho43 P) (lf (ho426 P)) (lf (ho44 P))))))) (.node (ho46 P) (.node (ho43 P) (.node (ho76 P) (.node (ho108 P) (.node (ho174 P) (lf (ho306 P)) (lf (ho438 P))) (.node (ho240 P) (lf (ho372 P)) (lf (ho502 P)))) (.node (ho43 P) (.node (ho43 P) (lf (ho338 P)) (lf (ho44 P))) (.node (ho44 P) (lf (ho43 P)) (lf (ho619 P))))) (.node (ho92 P) (.node (ho44 P) (.node (ho190 P) (lf (ho43 P)) (lf (ho454 P))) (.node (ho256 P) (lf (ho390 P)) (lf (ho518 P)))) (.node (ho156 P) (.node (ho224 P) (lf (ho43 P)) (lf (ho43 P))) (.node (ho43 P) (lf (ho422 P)) (lf (ho635 P)))))) (.node (ho44 P) (.node (ho43 P) (.node (ho43 P) (.node (ho182 P) (lf (ho314 P)) (lf (ho446 P))) (.node (ho248 P) (lf (ho380 P)) (lf (ho510 P)))) (.node (ho148 P) (.node (ho44 P) (lf (ho43 P)) (lf (ho478 P))) (.node (ho282 P) (lf (ho44 P)) (lf (ho43 P))))) (.node (ho100 P) (.node (ho132 P) (.node (ho200 P) (lf (ho44 P)) (lf (ho43 P))) (.node (ho43 P) (lf (ho398 P)) (lf (ho44 P)))) (.node (ho164 P) (.node (ho43 P) (lf (ho364 P)) (lf (ho494 P))) (.node (ho298 P) (lf (ho43 P)) (lf (ho643 P))))))))))
noncomputable def hh650 (P : Params) : Heap := ⟨⟨[(boot_o_0 P), (boot_o_1 P), (boot_o_2 P), (ho608 P), (boot_o_4 P), (boot_o_5 P), (boot_o_6 P), (boot_o_7 P), (boot_o_8 P), (boot_o_9 P), (boot_o_10 P), (ho43 P), (ho609 P), (ho45 P), (ho46 P), (ho43 P), (ho44 P), (ho53 P), (ho43 P), (ho55 P), (ho56 P), (ho57 P), (ho43 P), (ho44 P), (ho43 P), (ho43 P), (ho62 P), (ho63 P), (ho64 P), (ho43 P), (ho44 P), (ho43 P), (ho43 P), (ho69 P), (ho70 P), (ho71 P), (ho43 P), (ho75 P), (ho76 P), (ho43 P), (ho78 P), (ho79 P), (ho80 P), (ho43 P), (ho44 P), (ho83 P), (ho43 P), (ho85 P), (ho86 P), (ho87 P), (ho43 P), (ho44 P), (ho90 P), (ho43 P), (ho92 P), (ho93 P), (ho94 P), (ho43 P), (ho44 P), (ho97 P), (ho43 P), (ho99 P), (ho100 P), (ho101 P), (ho43 P), (ho44 P), (ho104 P), (ho43 P), (ho106 P), (ho107 P), (ho108 P), (ho43 P), (ho44 P), (ho111 P), (ho43 P), (ho113 P), (ho114 P), (ho115 P), (ho43 P), (ho44 P), (ho118 P), (ho43 P), (ho120 P), (ho121 P), (ho122 P), (ho43 P), (ho44 P), (ho125 P), (ho43 P), (ho127 P), (ho128 P), (ho129 P), (ho43 P), (ho44 P), (ho132 P), (ho43 P), (ho134 P), (ho135 P), (ho136 P), (ho43 P), (ho44 P), (ho139 P), (ho43 P), (ho141 P), (ho142 P), (ho143 P), (ho43 P), (ho44 P), (ho146 P), (ho43 P), (ho148 P), (ho149 P), (ho150 P), (ho43 P), (ho44 P), (ho153 P), (ho43 P), (ho155 P), (ho156 P), (ho157 P), (ho158 P), (ho159 P), (ho160 P), (ho161 P), (ho162 P), (ho163 P), (ho164 P), (ho167 P), (ho168 P), (ho169 P), (ho43 P), (ho44 P), (ho43 P), (ho43 P), (ho174 P), (ho175 P), (ho176 P), (ho43 P), (ho44 P), (ho179 P), (ho43 P), (ho181 P), (ho182 P), (ho183 P), (ho43 P), (ho44 P), (ho186 P), (ho43 P), (ho188 P), (ho189 P), (ho190 P), (ho43 P), (ho75 P), (ho195 P), (ho43 P), (ho197 P), (ho198 P), (ho199 P), (ho200 P), (ho43 P), (ho44 P), (ho203 P), (ho43 P), (ho205 P), (ho206 P), (ho207 P), (ho43 P), (ho44 P), (ho210 P), (ho43 P), (ho212 P), (ho213 P), (ho214 P), (ho43 P), (ho44 P), (ho217 P), (ho43 P), (ho219 P), (ho220 P), (ho221 P), (ho43 P), (ho44 P), (ho224 P), (ho43 P), (ho226 P), (ho227 P), (ho228 P), (ho43 P), (ho44 P), (ho231 P), (ho43 P), (ho233 P), (ho234 P), (ho235 P), (ho43 P), (ho44 P), (ho238 P), (ho43 P), (ho240 P), (ho241 P), (ho242 P), (ho43 P), (ho44 P), (ho245 P), (ho43 P), (ho247 P), (ho248 P), (ho249 P), (ho43 P), (ho44 P), (ho252 P), (ho43 P), (ho254 P), (ho255 P), (ho256 P), (ho257 P), (ho258 P), (ho259 P), (ho260 P), (ho261 P), (ho262 P), (ho263 P), (ho43 P), (ho44 P), (ho268 P), (ho43 P), (ho270 P), (ho271 P), (ho272 P), (ho43 P), (ho44 P), (ho275 P), (ho43 P), (ho277 P), (ho278 P), (ho279 P), (ho43 P), (ho44 P), (ho282 P), (ho43 P), (ho284 P), (ho285 P), (ho286 P), (ho43 P), (ho44 P), (ho289 P), (ho43 P), (ho291 P), (ho292 P), (ho293 P), (ho43 P), (ho44 P), (ho296 P), (ho43 P), (ho298 P), (ho299 P), (ho300 P), (ho43 P), (ho44 P), (ho303 P), (ho43 P), (ho305 P), (ho306 P), (ho307 P), (ho43 P), (ho44 P), (ho310 P), (ho43 P), (ho312 P), (ho313 P), (ho314 P), (ho43 P), (ho44 P), (ho317 P), (ho43 P), (ho319 P), (ho320 P), (ho321 P), (ho43 P), (ho44 P), (ho324 P), (ho43 P), (ho326 P), (ho327 P), (ho328 P), (ho43 P), (ho44 P), (ho331 P), (ho43 P), (ho333 P), (ho334 P), (ho335 P), (ho43 P), (ho44 P), (ho338 P), (ho43 P), (ho340 P), (ho341 P), (ho342 P), (ho43 P), (ho44 P), (ho347 P), (ho43 P), (ho349 P), (ho350 P), (ho351 P), (ho200 P), (ho43 P), (ho44 P), (ho355 P), (ho43 P), (ho357 P), (ho358 P), (ho359 P), (ho43 P), (ho44 P), (ho362 P), (ho43 P), (ho364 P), (ho365 P), (ho366 P), (ho43 P), (ho44 P), (ho369 P), (ho43 P), (ho371 P), (ho372 P), (ho373 P), (ho43 P), (ho44 P), (ho376 P), (ho43 P), (ho378 P), (ho379 P), (ho380 P), (ho43 P), (ho75 P), (ho385 P), (ho43 P), (ho387 P), (ho388 P), (ho389 P), (ho390 P), (ho43 P), (ho44 P), (ho393 P), (ho43 P), (ho395 P), (ho396 P), (ho397 P), (ho398 P), (ho43 P), (ho44 P), (ho401 P), (ho43 P), (ho403 P), (ho404 P), (ho405 P), (ho43 P), (ho44 P), (ho408 P), (ho43 P), (ho410 P), (ho411 P), (ho412 P), (ho43 P), (ho44 P), (ho415 P), (ho43 P), (ho417 P), (ho418 P), (ho419 P), (ho43 P), (ho44 P), (ho422 P), (ho43 P), (ho424 P), (ho425 P), (ho426 P), (ho43 P), (ho44 P), (ho429 P), (ho43 P), (ho431 P), (ho432 P), (ho433 P), (ho43 P), (ho44 P), (ho436 P), (ho43 P), (ho438 P), (ho439 P), (ho440 P), (ho43 P), (ho44 P), (ho443 P), (ho43 P), (ho445 P), (ho446 P), (ho447 P), (ho43 P), (ho44 P), (ho450 P), (ho43 P), (ho452 P), (ho453 P), (ho454 P), (ho43 P), (ho44 P), (ho457 P), (ho43 P), (ho459 P), (ho460 P), (ho461 P), (ho43 P), (ho44 P), (ho464 P), (ho43 P), (ho466 P), (ho467 P), (ho468 P), (ho43 P), (ho44 P), (ho471 P), (ho43 P), (ho473 P), (ho474 P), (ho475 P), (ho43 P), (ho44 P), (ho478 P), (ho43 P), (ho480 P), (ho481 P), (ho482 P), (ho43 P), (ho44 P), (ho485 P), (ho43 P), (ho487 P), (ho488 P), (ho489 P), (ho43 P), (ho44 P), (ho492 P), (ho43 P), (ho494 P), (ho495 P), (ho496 P), (ho43 P), (ho44 P), (ho499 P), (ho43 P), (ho501 P), (ho502 P), (ho503 P), (ho43 P), (ho44 P), (ho506 P), (ho43 P), (ho508 P), (ho509 P), (ho510 P), (ho43 P), (ho44 P), (ho513 P), (ho43 P), (ho515 P), (ho516 P), (ho517 P), (ho518 P), (ho519 P), (ho520 P), (ho521 P), (ho522 P), (ho523 P), (ho524 P), (ho43 P), (ho44 P), (ho612 P), (ho43 P), (ho614 P), (ho615 P), (ho616 P), (ho43 P), (ho44 P), (ho619 P), (ho43 P), (ho621 P), (ho622 P), (ho623 P), (ho43 P), (ho44 P), (ho626 P), (ho43 P), (ho628 P), (ho629 P), (ho630 P), (ho43 P), (ho44 P), (ho633 P), (ho43 P), (ho635 P), (ho636 P), (ho637 P), (ho43 P), (ho44 P), (ho640 P), (ho43 P), (ho642 P), (ho643 P), (ho644 P), (ho43 P), (ho44 P), (ho647 P), (ho648 P), (ho649 P)]⟩, ⟨[], [], [], 0, [], [], false, (#[]), [], 0, false, false, false, (0 : Int), [(2000 : Int), (10 : Int), (10 : Int)], false, 0, true, [], [], 0, false⟩⟩
noncomputable def hs49 : List Stmt := ((behindTheImports PySem.Challenge.rw_sa0155_02.row.toRowW.1).drop 0).take 11
noncomputable def hs72 : List Stmt := ((behindTheImports PySem.Challenge.rw_sa0155_02.row.toRowW.1).drop 11).take 1
noncomputable def hs165 : List Stmt := ((behindTheImports PySem.Challenge.rw_sa0155_02.row.toRowW.1).drop 12).take 8
noncomputable def hs191 : List Stmt := ((behindTheImports PySem.Challenge.rw_sa0155_02.row.toRowW.1).drop 20).take 1
noncomputable def hs264 : List Stmt := ((behindTheImports PySem.Challenge.rw_sa0155_02.row.toRowW.1).drop 21).take 16
noncomputable def hs343 : List Stmt := ((behindTheImports PySem.Challenge.rw_sa0155_02.row.toRowW.1).drop 37).take 5
noncomputable def hs381 : List Stmt := ((behindTheImports PySem.Challenge.rw_sa0155_02.row.toRowW.1).drop 42).take 1
noncomputable def hs608 : List Stmt := ((behindTheImports PySem.Challenge.rw_sa0155_02.row.toRowW.1).drop 43).take 7
noncomputable def hv : Program := { PySem.Challenge.rw_sa0155_02.row.toRowW.1 with main := { PySem.Challenge.rw_sa0155_02.row.toRowW.1.main with body := [0, 2, 3, 4, 5, 6, 7, 8, 9, 10, 11, 13, 14, 15, 16, 17, 18, 19, 20, 22, 24, 25, 26, 27, 28, 29, 30, 31, 32, 34, 35, 36, 37, 39, 40, 41, 42, 44, 45, 46, 47, 48, 49].map (nS B0) } }
noncomputable def hK (P : Params) : Frag := [(2, (boot_o_2 P)), (3, (ho608 P)), (15, (ho43 P)), (17, (ho53 P)), (18, (ho43 P)), (20, (ho56 P)), (21, (ho57 P)), (22, (ho43 P)), (24, (ho43 P)), (25, (ho43 P)), (27, (ho63 P)), (28, (ho64 P)), (29, (ho43 P)), (31, (ho43 P)), (32, (ho43 P)), (34, (ho70 P)), (35, (ho71 P)), (43, (ho43 P)), (45, (ho83 P)), (46, (ho43 P)), (48, (ho86 P)), (49, (ho87 P)), (50, (ho43 P)), (52, (ho90 P)), (53, (ho43 P)), (55, (ho93 P)), (56, (ho94 P)), (57, (ho43 P)), (59, (ho97 P)), (60, (ho43 P)), (62, (ho100 P)), (63, (ho101 P)), (64, (ho43 P)), (66, (ho104 P)), (67, (ho43 P)), (69, (ho107 P)), (70, (ho108 P)), (71, (ho43 P)), (73, (ho111 P)), (74, (ho43 P)), (76, (ho114 P)), (77, (ho115 P)), (78, (ho43 P)), (80, (ho118 P)), (81, (ho43 P)), (83, (ho121 P)), (84, (ho122 P)), (85, (ho43 P)), (87, (ho125 P)), (88, (ho43 P)), (90, (ho128 P)), (91, (ho129 P)), (92, (ho43 P)), (94, (ho132 P)), (95, (ho43 P)), (97, (ho135 P)), (98, (ho136 P)), (99, (ho43 P)), (101, (ho139 P)), (102, (ho43 P)), (104, (ho142 P)), (105, (ho143 P)), (106, (ho43 P)), (108, (ho146 P)), (109, (ho43 P)), (111, (ho149 P)), (112, (ho150 P)), (113, (ho43 P)), (115, (ho153 P)), (116, (ho43 P)), (118, (ho156 P)), (119, (ho157 P)), (120, (ho158 P)), (121, (ho159 P)), (122, (ho160 P)), (123, (ho161 P)), (124, (ho162 P)), (127, (ho167 P)), (128, (ho168 P)), (129, (ho169 P)), (130, (ho43 P)), (132, (ho43 P)), (133, (ho43 P)), (135, (ho175 P)), (136, (ho176 P)), (137, (ho43 P)), (139, (ho179 P)), (140, (ho43 P)), (142, (ho182 P)), (143, (ho183 P)), (144, (ho43 P)), (146, (ho186 P)), (147, (ho43 P)), (149, (ho189 P)), (150, (ho190 P)), (158, (ho200 P)), (159, (ho43 P)), (161, (ho203 P)), (162, (ho43 P)), (164, (ho206 P)), (165, (ho207 P)), (166, (ho43 P)), (168, (ho210 P)), (169, (ho43 P)), (171, (ho213 P)), (172, (ho214 P)), (173, (ho43 P)), (175, (ho217 P)), (176, (ho43 P)), (178, (ho220 P)), (179, (ho221 P)), (180, (ho43 P)), (182, (ho224 P)), (183, (ho43 P)), (185, (ho227 P)), (186, (ho228 P)), (187, (ho43 P)), (189, (ho231 P)), (190, (ho43 P)), (192, (ho234 P)), (193, (ho235 P)), (194, (ho43 P)), (196, (ho238 P)), (197, (ho43 P)), (199, (ho241 P)), (200, (ho242 P)), (201, (ho43 P)), (203, (ho245 P)), (204, (ho43 P)), (206, (ho248 P)), (207, (ho249 P)), (208, (ho43 P)), (210, (ho252 P)), (211, (ho43 P)), (213, (ho255 P)), (214, (ho256 P)), (215, (ho257 P)), (216, (ho258 P)), (217, (ho259 P)), (218, (ho260 P)), (219, (ho261 P)), (222, (ho43 P)), (224, (ho268 P)), (225, (ho43 P)), (227, (ho271 P)), (228, (ho272 P)), (229, (ho43 P)), (231, (ho275 P)), (232, (ho43 P)), (234, (ho278 P)), (235, (ho279 P)), (236, (ho43 P)), (238, (ho282 P)), (239, (ho43 P)), (241, (ho285 P)), (242, (ho286 P)), (243, (ho43 P)), (245, (ho289 P)), (246, (ho43 P)), (248, (ho292 P)), (249, (ho293 P)), (250, (ho43 P)), (252, (ho296 P)), (253, (ho43 P)), (255, (ho299 P)), (256, (ho300 P)), (257, (ho43 P)), (259, (ho303 P)), (260, (ho43 P)), (262, (ho306 P)), (263, (ho307 P)), (264, (ho43 P)), (266, (ho310 P)), (267, (ho43 P)), (269, (ho313 P)), (270, (ho314 P)), (271, (ho43 P)), (273, (ho317 P)), (274, (ho43 P)), (276, (ho320 P)), (277, (ho321 P)), (278, (ho43 P)), (280, (ho324 P)), (281, (ho43 P)), (283, (ho327 P)), (284, (ho328 P)), (285, (ho43 P)), (287, (ho331 P)), (288, (ho43 P)), (290, (ho334 P)), (291, (ho335 P)), (292, (ho43 P)), (294, (ho338 P)), (295, (ho43 P)), (297, (ho341 P)), (298, (ho342 P)), (299, (ho43 P)), (301, (ho347 P)), (302, (ho43 P)), (304, (ho350 P)), (305, (ho351 P)), (306, (ho200 P)), (307, (ho43 P)), (309, (ho355 P)), (310, (ho43 P)), (312, (ho358 P)), (313, (ho359 P)), (314, (ho43 P)), (316, (ho362 P)), (317, (ho43 P)), (319, (ho365 P)), (320, (ho366 P)), (321, (ho43 P)), (323, (ho369 P)), (324, (ho43 P)), (326, (ho372 P)), (327, (ho373 P)), (328, (ho43 P)), (330, (ho376 P)), (331, (ho43 P)), (333, (ho379 P)), (334, (ho380 P)), (342, (ho390 P)), (343, (ho43 P)), (345, (ho393 P)), (346, (ho43 P)), (348, (ho396 P)), (349, (ho397 P)), (350, (ho398 P)), (351, (ho43 P)), (353, (ho401 P)), (354, (ho43 P)), (356, (ho404 P)), (357, (ho405 P)), (358, (ho43 P)), (360, (ho408 P)), (361, (ho43 P)), (363, (ho411 P)), (364, (ho412 P)), (365, (ho43 P)), (367, (ho415 P)), (368, (ho43 P)), (370, (ho418 P)), (371, (ho419 P)), (372, (ho43 P)), (374, (ho422 P)), (375, (ho43 P)), (377, (ho425 P)), (378, (ho426 P)), (379, (ho43 P)), (381, (ho429 P)), (382, (ho43 P)), (384, (ho432 P)), (385, (ho433 P)), (386, (ho43 P)), (388, (ho436 P)), (389, (ho43 P)), (391, (ho439 P)), (392, (ho440 P)), (393, (ho43 P)), (395, (ho443 P)), (396, (ho43 P)), (398, (ho446 P)), (399, (ho447 P)), (400, (ho43 P)), (402, (ho450 P)), (403, (ho43 P)), (405, (ho453 P)), (406, (ho454 P)), (407, (ho43 P)), (409, (ho457 P)), (410, (ho43 P)), (412, (ho460 P)), (413, (ho461 P)), (414, (ho43 P)), (416, (ho464 P)), (417, (ho43 P)), (419, (ho467 P)), (420, (ho468 P)), (421, (ho43 P)), (423, (ho471 P)), (424, (ho43 P)), (426, (ho474 P)), (427, (ho475 P)), (428, (ho43 P)), (430, (ho478 P)), (431, (ho43 P)), (433, (ho481 P)), (434, (ho482 P)), (435, (ho43 P)), (437, (ho485 P)), (438, (ho43 P)), (440, (ho488 P)), (441, (ho489 P)), (442, (ho43 P)), (444, (ho492 P)), (445, (ho43 P)), (447, (ho495 P)), (448, (ho496 P)), (449, (ho43 P)), (451, (ho499 P)), (452, (ho43 P)), (454, (ho502 P)), (455, (ho503 P)), (456, (ho43 P)), (458, (ho506 P)), (459, (ho43 P)), (461, (ho509 P)), (462, (ho510 P)), (463, (ho43 P)), (465, (ho513 P)), (466, (ho43 P)), (468, (ho516 P)), (469, (ho517 P)), (470, (ho518 P)), (471, (ho519 P)), (472, (ho520 P)), (473, (ho521 P)), (474, (ho522 P)), (477, (ho43 P)), (479, (ho612 P)), (480, (ho43 P)), (482, (ho615 P)), (483, (ho616 P)), (484, (ho43 P)), (486, (ho619 P)), (487, (ho43 P)), (489, (ho622 P)), (490, (ho623 P)), (491, (ho43 P)), (493, (ho626 P)), (494, (ho43 P)), (496, (ho629 P)), (497, (ho630 P)), (498, (ho43 P)), (500, (ho633 P)), (501, (ho43 P)), (503, (ho636 P)), (504, (ho637 P)), (505, (ho43 P)), (507, (ho640 P)), (508, (ho43 P)), (510, (ho643 P)), (511, (ho644 P)), (512, (ho43 P)), (515, (ho648 P)), (516, (ho649 P))]
noncomputable def hKa : List Addr := [2, 3, 15, 17, 18, 20, 21, 22, 24, 25, 27, 28, 29, 31, 32, 34, 35, 43, 45, 46, 48, 49, 50, 52, 53, 55, 56, 57, 59, 60, 62, 63, 64, 66, 67, 69, 70, 71, 73, 74, 76, 77, 78, 80, 81, 83, 84, 85, 87, 88, 90, 91, 92, 94, 95, 97, 98, 99, 101, 102, 104, 105, 106, 108, 109, 111, 112, 113, 115, 116, 118, 119, 120, 121, 122, 123, 124, 127, 128, 129, 130, 132, 133, 135, 136, 137, 139, 140, 142, 143, 144, 146, 147, 149, 150, 158, 159, 161, 162, 164, 165, 166, 168, 169, 171, 172, 173, 175, 176, 178, 179, 180, 182, 183, 185, 186, 187, 189, 190, 192, 193, 194, 196, 197, 199, 200, 201, 203, 204, 206, 207, 208, 210, 211, 213, 214, 215, 216, 217, 218, 219, 222, 224, 225, 227, 228, 229, 231, 232, 234, 235, 236, 238, 239, 241, 242, 243, 245, 246, 248, 249, 250, 252, 253, 255, 256, 257, 259, 260, 262, 263, 264, 266, 267, 269, 270, 271, 273, 274, 276, 277, 278, 280, 281, 283, 284, 285, 287, 288, 290, 291, 292, 294, 295, 297, 298, 299, 301, 302, 304, 305, 306, 307, 309, 310, 312, 313, 314, 316, 317, 319, 320, 321, 323, 324, 326, 327, 328, 330, 331, 333, 334, 342, 343, 345, 346, 348, 349, 350, 351, 353, 354, 356, 357, 358, 360, 361, 363, 364, 365, 367, 368, 370, 371, 372, 374, 375, 377, 378, 379, 381, 382, 384, 385, 386, 388, 389, 391, 392, 393, 395, 396, 398, 399, 400, 402, 403, 405, 406, 407, 409, 410, 412, 413, 414, 416, 417, 419, 420, 421, 423, 424, 426, 427, 428, 430, 431, 433, 434, 435, 437, 438, 440, 441, 442, 444, 445, 447, 448, 449, 451, 452, 454, 455, 456, 458, 459, 461, 462, 463, 465, 466, 468, 469, 470, 471, 472, 473, 474, 477, 479, 480, 482, 483, 484, 486, 487, 489, 490, 491, 493, 494, 496, 497, 498, 500, 501, 503, 504, 505, 507, 508, 510, 511, 512, 515, 516]
theorem hp47 : (∀ (x0 : World), ((fun (x1 : OsState) => (topGo treeTable PR x0 11 (some (.ref 6)) 12 ⟨(boot_heap (World.params x0)), ⟨[]⟩, boot_drawn, boot_toks, x1⟩ (topStub PR))) = (fun (x1 : OsState) => (some (⟨(hh46 (World.params x0)), ⟨[]⟩, ⟨0, 0, 0, 0⟩, 187, x1⟩, ⟨(denote treeTable (.body (behindTheImports PR) he41)), (.body (behindTheImports PR) he41), ⟨0, 0, 0, 0⟩, [(topFrame ⟨0, 0, 0, 0⟩)]⟩))))) := by
  intro w
  try rw [PySem.W.Fast.te15667345088766844465]
  try rw [PySem.W.Fast.te14364793385576792824]
  try rw [PySem.W.Fast.te2368527892694137696]
  try rw [PySem.W.Fast.te11892475500146522536]
  kernel_rfl
theorem hp49 : (∀ (x0 : World), ((fun (x1 : OsState) => (segRun treeTable PR x0 11 (some (.ref 6)) 1 1 ⟨(hh46 (World.params x0)), ⟨[]⟩, ⟨0, 0, 0, 0⟩, 187, x1⟩ (blockOf (behindTheImports PR) he41 (.body (behindTheImports PR) he41) ⟨0, 0, 0, 0⟩ [(topFrame ⟨0, 0, 0, 0⟩)]))) = (fun (x1 : OsState) => (some (.next, ((SharedT.abs ⟨(ht47 (World.params x0)), 15, ⟨[], [], [], 0, [], [], false, (#[]), [], 0, false, false, false, (0 : Int), [(2000 : Int), (10 : Int), (10 : Int)], false, 0, true, [], [], 0, false⟩, ⟨[]⟩, ⟨0, 0, 0, 0⟩, 187, x1⟩), ((.body (behindTheImports PR) he41), ⟨0, 0, 0, 0⟩))))))) := by
  intro w
  try rw [PySem.W.Fast.te14374325043358763698]
  try rw [PySem.W.Fast.te14364793385576792824]
  try rw [PySem.W.Fast.te2368527892694137696]
  kernel_rfl
theorem hp72 : (∀ (x0 : World), ((fun (x1 : OsState) => (segRunT treeTable PR x0 11 (some (.ref 6)) 1 158 ⟨(ht47 (World.params x0)), 15, ⟨[], [], [], 0, [], [], false, (#[]), [], 0, false, false, false, (0 : Int), [(2000 : Int), (10 : Int), (10 : Int)], false, 0, true, [], [], 0, false⟩, ⟨[]⟩, ⟨0, 0, 0, 0⟩, 187, x1⟩ (piecesOf hs49 he41 (.body (behindTheImports PR) he41) ⟨0, 0, 0, 0⟩ [(topFrame ⟨0, 0, 0, 0⟩)]))) = (fun (x1 : OsState) => (some (.next, (⟨(ht71 (World.params x0)), 36, ⟨[], [], [], 0, [], [], false, (#[]), [], 0, false, false, false, (0 : Int), [(2000 : Int), (10 : Int), (10 : Int)], false, 0, true, [], [], 0, false⟩, ⟨[]⟩, ⟨0, 0, 0, 0⟩, 222, x1⟩, ((.body (behindTheImports PR) he41), ⟨14, 0, 15, 389⟩))))))) := by
  intro w
  try rw [PySem.W.Fast.te10110043849684766642]
  try rw [PySem.W.Fast.te14364793385576792824]
  try rw [PySem.W.Fast.te2368527892694137696]
  kernel_rfl
theorem hp165 : (∀ (x0 : World), ((fun (x1 : OsState) => (segRunT treeTable PR x0 11 (some (.ref 6)) 1 553 ⟨(ht71 (World.params x0)), 36, ⟨[], [], [], 0, [], [], false, (#[]), [], 0, false, false, false, (0 : Int), [(2000 : Int), (10 : Int), (10 : Int)], false, 0, true, [], [], 0, false⟩, ⟨[]⟩, ⟨0, 0, 0, 0⟩, 222, x1⟩ (piecesOf hs72 he41 (.body (behindTheImports PR) he41) ⟨14, 0, 15, 389⟩ [(topFrame ⟨0, 0, 0, 0⟩)]))) = (fun (x1 : OsState) => (some (.next, (⟨(ht164 (World.params x0)), 127, ⟨[], [], [], 0, [], [], false, (#[]), [], 0, false, false, false, (0 : Int), [(2000 : Int), (10 : Int), (10 : Int)], false, 0, true, [], [], 0, false⟩, ⟨[]⟩, ⟨0, 0, 0, 0⟩, 341, x1⟩, ((.body (behindTheImports PR) he41), ⟨16, 0, 69, 16⟩))))))) := by
  intro w
  try rw [PySem.W.Fast.te10110043849684766642]
  try rw [PySem.W.Fast.te14364793385576792824]
  try rw [PySem.W.Fast.te2368527892694137696]
  kernel_rfl
theorem hp191 : (∀ (x0 : World), ((fun (x1 : OsState) => (segRunT treeTable PR x0 11 (some (.ref 6)) 1 144 ⟨(ht164 (World.params x0)), 127, ⟨[], [], [], 0, [], [], false, (#[]), [], 0, false, false, false, (0 : Int), [(2000 : Int), (10 : Int), (10 : Int)], false, 0, true, [], [], 0, false⟩, ⟨[]⟩, ⟨0, 0, 0, 0⟩, 341, x1⟩ (piecesOf hs165 he41 (.body (behindTheImports PR) he41) ⟨16, 0, 69, 16⟩ [(topFrame ⟨0, 0, 0, 0⟩)]))) = (fun (x1 : OsState) => (some (.next, (⟨(ht190 (World.params x0)), 151, ⟨[], [], [], 0, [], [], false, (#[]), [], 0, false, false, false, (0 : Int), [(2000 : Int), (10 : Int), (10 : Int)], false, 0, true, [], [], 0, false⟩, ⟨[]⟩, ⟨0, 0, 0, 0⟩, 377, x1⟩, ((.body (behindTheImports PR) he41), ⟨85, 0, 99, 25⟩))))))) := by
  intro w
  try rw [PySem.W.Fast.te10110043849684766642]
  try rw [PySem.W.Fast.te14364793385576792824]
  try rw [PySem.W.Fast.te2368527892694137696]
  kernel_rfl
theorem hp264 : (∀ (x0 : World), ((fun (x1 : OsState) => (segRunT treeTable PR x0 11 (some (.ref 6)) 1 463 ⟨(ht190 (World.params x0)), 151, ⟨[], [], [], 0, [], [], false, (#[]), [], 0, false, false, false, (0 : Int), [(2000 : Int), (10 : Int), (10 : Int)], false, 0, true, [], [], 0, false⟩, ⟨[]⟩, ⟨0, 0, 0, 0⟩, 377, x1⟩ (piecesOf hs191 he41 (.body (behindTheImports PR) he41) ⟨85, 0, 99, 25⟩ [(topFrame ⟨0, 0, 0, 0⟩)]))) = (fun (x1 : OsState) => (some (.next, (⟨(ht263 (World.params x0)), 222, ⟨[], [], [], 0, [], [], false, (#[]), [], 0, false, false, false, (0 : Int), [(2000 : Int), (10 : Int), (10 : Int)], false, 0, true, [], [], 0, false⟩, ⟨[]⟩, ⟨0, 0, 0, 0⟩, 477, x1⟩, ((.body (behindTheImports PR) he41), ⟨100, 0, 145, 28⟩))))))) := by
  intro w
  try rw [PySem.W.Fast.te10110043849684766642]
  try rw [PySem.W.Fast.te14364793385576792824]
  try rw [PySem.W.Fast.te2368527892694137696]
  kernel_rfl
theorem hp343 : (∀ (x0 : World), ((fun (x1 : OsState) => (segRunT treeTable PR x0 11 (some (.ref 6)) 1 372 ⟨(ht263 (World.params x0)), 222, ⟨[], [], [], 0, [], [], false, (#[]), [], 0, false, false, false, (0 : Int), [(2000 : Int), (10 : Int), (10 : Int)], false, 0, true, [], [], 0, false⟩, ⟨[]⟩, ⟨0, 0, 0, 0⟩, 477, x1⟩ (piecesOf hs264 he41 (.body (behindTheImports PR) he41) ⟨100, 0, 145, 28⟩ [(topFrame ⟨0, 0, 0, 0⟩)]))) = (fun (x1 : OsState) => (some (.next, (⟨(ht342 (World.params x0)), 299, ⟨[], [], [], 0, [], [], false, (#[]), [], 0, false, false, false, (0 : Int), [(2000 : Int), (10 : Int), (10 : Int)], false, 0, true, [], [], 0, false⟩, ⟨[]⟩, ⟨0, 0, 0, 0⟩, 571, x1⟩, ((.body (behindTheImports PR) he41), ⟨197, 0, 205, 20⟩))))))) := by
  intro w
  try rw [PySem.W.Fast.te10110043849684766642]
  try rw [PySem.W.Fast.te14364793385576792824]
  try rw [PySem.W.Fast.te2368527892694137696]
  kernel_rfl
theorem hp381 : (∀ (x0 : World), ((fun (x1 : OsState) => (segRunT treeTable PR x0 11 (some (.ref 6)) 1 154 ⟨(ht342 (World.params x0)), 299, ⟨[], [], [], 0, [], [], false, (#[]), [], 0, false, false, false, (0 : Int), [(2000 : Int), (10 : Int), (10 : Int)], false, 0, true, [], [], 0, false⟩, ⟨[]⟩, ⟨0, 0, 0, 0⟩, 571, x1⟩ (piecesOf hs343 he41 (.body (behindTheImports PR) he41) ⟨197, 0, 205, 20⟩ [(topFrame ⟨0, 0, 0, 0⟩)]))) = (fun (x1 : OsState) => (some (.next, (⟨(ht380 (World.params x0)), 335, ⟨[], [], [], 0, [], [], false, (#[]), [], 0, false, false, false, (0 : Int), [(2000 : Int), (10 : Int), (10 : Int)], false, 0, true, [], [], 0, false⟩, ⟨[]⟩, ⟨0, 0, 0, 0⟩, 613, x1⟩, ((.body (behindTheImports PR) he41), ⟨225, 0, 226, 61⟩))))))) := by
  intro w
  try rw [PySem.W.Fast.te10110043849684766642]
  try rw [PySem.W.Fast.te14364793385576792824]
  try rw [PySem.W.Fast.te2368527892694137696]
  kernel_rfl
theorem hp608T : (∀ (x0 : World), ((fun (x1 : OsState) => (segRunT treeTable PR x0 11 (some (.ref 6)) 1 828 ⟨(ht380 (World.params x0)), 335, ⟨[], [], [], 0, [], [], false, (#[]), [], 0, false, false, false, (0 : Int), [(2000 : Int), (10 : Int), (10 : Int)], false, 0, true, [], [], 0, false⟩, ⟨[]⟩, ⟨0, 0, 0, 0⟩, 613, x1⟩ (piecesOf hs381 he41 (.body (behindTheImports PR) he41) ⟨225, 0, 226, 61⟩ [(topFrame ⟨0, 0, 0, 0⟩)]))) = (fun (x1 : OsState) => (some (.next, (⟨(ht524 (World.params x0)), 477, ⟨[], [], [], 0, [], [], false, (#[]), [], 0, false, false, false, (0 : Int), [(2000 : Int), (10 : Int), (10 : Int)], false, 0, true, [], [], 0, false⟩, ⟨[]⟩, ⟨0, 0, 0, 0⟩, 833, x1⟩, ((.body (behindTheImports PR) he41), ⟨227, 0, 435, 26⟩))))))) := by
  intro w
  try rw [PySem.W.Fast.te10110043849684766642]
  try rw [PySem.W.Fast.te14364793385576792824]
  try rw [PySem.W.Fast.te2368527892694137696]
  kernel_rfl
theorem hp608 : (∀ (x0 : World), ((fun (x1 : OsState) => (segRun treeTable PR x0 11 (some (.ref 6)) 1 828 (SharedT.abs ⟨(ht380 (World.params x0)), 335, ⟨[], [], [], 0, [], [], false, (#[]), [], 0, false, false, false, (0 : Int), [(2000 : Int), (10 : Int), (10 : Int)], false, 0, true, [], [], 0, false⟩, ⟨[]⟩, ⟨0, 0, 0, 0⟩, 613, x1⟩) (piecesOf hs381 he41 (.body (behindTheImports PR) he41) ⟨225, 0, 226, 61⟩ [(topFrame ⟨0, 0, 0, 0⟩)]))) = (fun (x1 : OsState) => (some (.next, ((SharedT.abs ⟨(ht524 (World.params x0)), 477, ⟨[], [], [], 0, [], [], false, (#[]), [], 0, false, false, false, (0 : Int), [(2000 : Int), (10 : Int), (10 : Int)], false, 0, true, [], [], 0, false⟩, ⟨[]⟩, ⟨0, 0, 0, 0⟩, 833, x1⟩), ((.body (behindTheImports PR) he41), ⟨227, 0, 435, 26⟩))))))) := fun w => funext fun os => segRun_of (congrFun (hp608T w) os)
theorem hp650 : (∀ (x0 : World), ((fun (x1 : OsState) => (segRunT treeTable PR x0 11 (some (.ref 6)) 1 196 ⟨(ht524 (World.params x0)), 477, ⟨[], [], [], 0, [], [], false, (#[]), [], 0, false, false, false, (0 : Int), [(2000 : Int), (10 : Int), (10 : Int)], false, 0, true, [], [], 0, false⟩, ⟨[]⟩, ⟨0, 0, 0, 0⟩, 833, x1⟩ (piecesOf hs608 he41 (.body (behindTheImports PR) he41) ⟨227, 0, 435, 26⟩ [(topFrame ⟨0, 0, 0, 0⟩)]))) = (fun (x1 : OsState) => (some (.next, (⟨(ht649 (World.params x0)), 517, ⟨[], [], [], 0, [], [], false, (#[]), [], 0, false, false, false, (0 : Int), [(2000 : Int), (10 : Int), (10 : Int)], false, 0, true, [], [], 0, false⟩, ⟨[]⟩, ⟨0, 0, 0, 0⟩, 891, x1⟩, ((.body (behindTheImports PR) he41), ⟨483, 0, 513, 58⟩))))))) := by
  intro w
  try rw [PySem.W.Fast.te10110043849684766642]
  try rw [PySem.W.Fast.te14364793385576792824]
  try rw [PySem.W.Fast.te2368527892694137696]
  kernel_rfl
theorem hp652 : (∀ (x0 : World), ((fun (x1 : OsState) => (topRun treeTable PR x0 11 (some (.ref 6)) 2 (SharedT.abs ⟨(ht649 (World.params x0)), 517, ⟨[], [], [], 0, [], [], false, (#[]), [], 0, false, false, false, (0 : Int), [(2000 : Int), (10 : Int), (10 : Int)], false, 0, true, [], [], 0, false⟩, ⟨[]⟩, ⟨0, 0, 0, 0⟩, 891, x1⟩) ⟨(doneF .next), (.body (behindTheImports PR) he41), ⟨483, 0, 513, 58⟩, [(topFrame ⟨0, 0, 0, 0⟩)]⟩)) = (fun (x1 : OsState) => (some ⟨(hh650 (World.params x0)), ⟨[]⟩, ⟨0, 0, 0, 0⟩, 891, x1⟩)))) := by
  intro w
  try rw [PySem.W.Fast.te14082659384304107361]
  try rw [PySem.W.Fast.te14364793385576792824]
  try rw [PySem.W.Fast.te2368527892694137696]
  kernel_rfl
theorem hp653 : (∀ (x0 : World), (∀ (x1 : OsState), ((topRun treeTable PR x0 11 (some (.ref 6)) (Nat.add 12 (Nat.add 1 (Nat.add 158 (Nat.add 553 (Nat.add 144 (Nat.add 463 (Nat.add 372 (Nat.add 154 (Nat.add 828 (Nat.add 196 2)))))))))) ⟨(boot_heap (World.params x0)), ⟨[]⟩, boot_drawn, boot_toks, x1⟩ (topStub PR)) = (some ⟨(hh650 (World.params x0)), ⟨[]⟩, ⟨0, 0, 0, 0⟩, 891, x1⟩)))) := (fun (x0 : World) => (fun (x1 : OsState) => (go_top (congrFun (hp47 x0) x1) (piece_block (congrFun (hp49 x0) x1) (piece_app (rest := List.drop 11 (behindTheImports PR)) (segRun_of (congrFun (hp72 x0) x1)) (piece_app (rest := List.drop 12 (behindTheImports PR)) (segRun_of (congrFun (hp165 x0) x1)) (piece_app (rest := List.drop 20 (behindTheImports PR)) (segRun_of (congrFun (hp191 x0) x1)) (piece_app (rest := List.drop 21 (behindTheImports PR)) (segRun_of (congrFun (hp264 x0) x1)) (piece_app (rest := List.drop 37 (behindTheImports PR)) (segRun_of (congrFun (hp343 x0) x1)) (piece_app (rest := List.drop 42 (behindTheImports PR)) (segRun_of (congrFun (hp381 x0) x1)) (piece_app (rest := List.drop 43 (behindTheImports PR)) (congrFun (hp608 x0) x1) (piece_app (segRun_of (congrFun (hp650 x0) x1)) (congrFun (hp652 x0) x1)))))))))))))
theorem hp655 : (∀ (x0 : World), (((Bool.and (Heap.isNs (boot_heap (World.params x0)) mainGlobals) (BEq.beq (Array.size (⟨[]⟩ : Array GenState)) 0)), ((Array.size (Heap.objs (boot_heap (World.params x0)))), (Heap.nsMap (boot_heap (World.params x0)) mainGlobals (so "__annotations__")))) = (true, (11, (some (.ref 6)))))) := by
  intro w
  try rw [PySem.W.Fast.te8920871248978507458]
  kernel_rfl
theorem hp657 : (∀ (x0 : World), ((fun (x1 : OsState) => (Bool.and (Bool.and (Bool.and (staticsOk (importedModules (Module.body (Program.main PR))) (boot_heap (World.params x0)) (hh650 (World.params x0))) (namesBound PR (hh650 (World.params x0)))) (gensDone ⟨(hh650 (World.params x0)), ⟨[]⟩, ⟨0, 0, 0, 0⟩, 891, x1⟩)) (laidKept (boot_heap (World.params x0)) (hh650 (World.params x0))))) = (fun (x1 : OsState) => true))) := by
  intro w
  try rw [PySem.W.Fast.te5923862056798008813]
  try rw [PySem.W.Fast.te2368527892694137696]
  kernel_rfl
theorem hp659 : (∀ (x0 : World), ((fun (x1 : OsState) => (seen (List.map (fun (x2 : DefRec) => (DefRec.name x2)) (recsOf hv)) (ownsOf hv) [] ⟨(Shared.heap ⟨(hh650 (World.params x0)), ⟨[]⟩, ⟨0, 0, 0, 0⟩, 891, x1⟩), (#[]), (Shared.drawn ⟨(hh650 (World.params x0)), ⟨[]⟩, ⟨0, 0, 0, 0⟩, 891, x1⟩), (Shared.toks ⟨(hh650 (World.params x0)), ⟨[]⟩, ⟨0, 0, 0, 0⟩, 891, x1⟩), (Shared.os ⟨(hh650 (World.params x0)), ⟨[]⟩, ⟨0, 0, 0, 0⟩, 891, x1⟩)⟩)) = (fun (x1 : OsState) => (expectedOf hv)))) := by
  intro w
  try rw [PySem.W.Fast.te5160383126252970620]
  try rw [PySem.W.R.mapR_eq]
  try rw [PySem.W.Fast.te3399658132070893891]
  try rw [PySem.W.Fast.te5991557255702980513]
  kernel_rfl
theorem hp661 : (∀ (x0 : World), ((fun (x1 : OsState) => (Heap.bltView (Shared.heap ⟨(hh650 (World.params x0)), ⟨[]⟩, ⟨0, 0, 0, 0⟩, 891, x1⟩))) = (fun (x1 : OsState) => bltViewBooted))) := by
  intro w
  kernel_rfl
theorem hp663 : (∀ (x0 : World), ((fun (x1 : OsState) => (Bool.and (Bool.and (Bool.and (Bool.and (Bool.and (Bool.and (Heap.keysOk (Shared.heap ⟨(hh650 (World.params x0)), ⟨[]⟩, ⟨0, 0, 0, 0⟩, 891, x1⟩) (looseW hv [(so "atom_text"), (so "Writer")]) (List.map (fun (x2 : DefRec) => (DefRec.name x2)) (recsOf hv)) (List.map (fun (x2 : (Prod Str PyData)) => (Prod.fst x2)) (litsOf hv)) (List.map (fun (x2 : ClsRec) => (ClsRec.name x2)) (clssOf hv (looseW hv [(so "atom_text"), (so "Writer")])))) (Heap.accountedOkI (Shared.heap ⟨(hh650 (World.params x0)), ⟨[]⟩, ⟨0, 0, 0, 0⟩, 891, x1⟩) (importedModules (Module.body (Program.main PR))))) (Heap.isNs (Shared.heap ⟨(hh650 (World.params x0)), ⟨[]⟩, ⟨0, 0, 0, 0⟩, 891, x1⟩) mainGlobals)) (Heap.isNs (Shared.heap ⟨(hh650 (World.params x0)), ⟨[]⟩, ⟨0, 0, 0, 0⟩, 891, x1⟩) builtinsNs)) (tablesOk hv (Shared.heap ⟨(hh650 (World.params x0)), ⟨[]⟩, ⟨0, 0, 0, 0⟩, 891, x1⟩))) ((fun (x2 : Shared) => (Bool.and (xlAt hv [] x2) (recOk (RowW.records (OpenRow.toRowW (OpenLaw.row PySem.Challenge.rw_sa0155_02))) x2))) ⟨(hh650 (World.params x0)), ⟨[]⟩, ⟨0, 0, 0, 0⟩, 891, x1⟩)) (ite (true = true) (BEq.beq (Array.size (Shared.gens ⟨(hh650 (World.params x0)), ⟨[]⟩, ⟨0, 0, 0, 0⟩, 891, x1⟩)) 0) (Bool.not (leftWithCleanup (Shared.gens ⟨(hh650 (World.params x0)), ⟨[]⟩, ⟨0, 0, 0, 0⟩, 891, x1⟩)))))) = (fun (x1 : OsState) => true))) := by
  intro w
  try rw [PySem.W.Fast.te10880121769531294198]
  try rw [PySem.W.Fast.te821141287760084731]
  try rw [PySem.W.R.mapR_eq]
  try rw [PySem.W.Fast.te3399658132070893891]
  try rw [PySem.W.Fast.te7409074990110511671]
  try rw [PySem.W.Fast.te13664370479719496447]
  try rw [PySem.W.Fast.te14722251495701143533]
  try rw [PySem.W.Fast.te5923862056798008813]
  try rw [PySem.W.Fast.te2368527892694137696]
  try rw [PySem.W.Fast.te10994771534591457954]
  kernel_rfl
theorem hp665 : (∀ (x0 : World), ((fun (x1 : OsState) => (tabsOk hv ⟨(hh650 (World.params x0)), ⟨[]⟩, ⟨0, 0, 0, 0⟩, 891, x1⟩)) = (fun (x1 : OsState) => true))) := by
  intro w
  try rw [PySem.W.Fast.te479339242167458305]
  kernel_rfl
theorem hp667 : (∀ (x0 : World), ((fun (x1 : OsState) => (pinSeenD hv (drecsOf hv) ⟨(hh650 (World.params x0)), ⟨[]⟩, ⟨0, 0, 0, 0⟩, 891, x1⟩)) = (fun (x1 : OsState) => (pinGoodD (drecsOf hv))))) := by
  intro w
  try rw [PySem.W.Fast.te16090120013241838585]
  try rw [PySem.W.Fast.te3247288618530077131]
  kernel_rfl
theorem hp669 : (∀ (x0 : World), ((fun (x1 : OsState) => (plainSeenE hv (looseW hv [(so "atom_text"), (so "Writer")]) ⟨(hh650 (World.params x0)), ⟨[]⟩, ⟨0, 0, 0, 0⟩, 891, x1⟩)) = (fun (x1 : OsState) => (plainGoodE hv (looseW hv [(so "atom_text"), (so "Writer")]))))) := by
  intro w
  try rw [PySem.W.Fast.te2386780881361962483]
  try rw [PySem.W.Fast.te821141287760084731]
  kernel_rfl
theorem hp671 : (∀ (x0 : World), ((fun (x1 : OsState) => (plainSeenD hv [(so "atom_text"), (so "Writer")] ⟨(hh650 (World.params x0)), ⟨[]⟩, ⟨0, 0, 0, 0⟩, 891, x1⟩)) = (fun (x1 : OsState) => (plainGoodD hv [(so "atom_text"), (so "Writer")])))) := by
  intro w
  try rw [PySem.W.Fast.te11698064438423848299]
  kernel_rfl
theorem hp673 : (∀ (x0 : World), ((fun (x1 : OsState) => (wideSeen hv ⟨(hh650 (World.params x0)), ⟨[]⟩, ⟨0, 0, 0, 0⟩, 891, x1⟩)) = (fun (x1 : OsState) => (wideGood hv)))) := by
  intro w
  try rw [PySem.W.Fast.te7317090234206586261]
  kernel_rfl
theorem hp675 : (∀ (x0 : World), ((fun (x1 : OsState) => (clsSeenW hv [(so "atom_text"), (so "Writer")] ⟨(hh650 (World.params x0)), ⟨[]⟩, ⟨0, 0, 0, 0⟩, 891, x1⟩)) = (fun (x1 : OsState) => (clsGoodW hv [(so "atom_text"), (so "Writer")])))) := by
  intro w
  try rw [PySem.W.Fast.te7369524293546568484]
  kernel_rfl
noncomputable def hLoose : List Str := [(so "atom_text"), (so "Writer")]
noncomputable def hX : Shared → Bool := fun s => xlAt hv [] s && recOk (RowW.records PySem.Challenge.rw_sa0155_02.row.toRowW) s
noncomputable def hSt (w : World) (os : OsState) : Shared := ⟨hh650 w.params, ⟨[]⟩, ⟨0, 0, 0, 0⟩, 891, os⟩
theorem hKas : ∀ P, hKa = (hK P).map (·.1) := fun _ => by kernel_rfl
theorem hpK (w : World) (os : OsState) : (kHook hK hKa hKas).obs (hSt w os) = (kHook hK hKa hKas).val w := by kernel_rfl
theorem hopen : opening PR = plainProg PR.main.scope.names := by kernel_rfl
theorem hfence : ∀ s : Shared, fenceModules? PR s = some s := fun s => by kernel_rfl
theorem hseen (w : World) (os : OsState) : openSeen hv hLoose (importedModules PR.main.body) hX true (hSt w os) = openGood hv hLoose :=
  looks_pair (congrFun (hp659 w) os) (looks_pair (congrFun (hp661 w) os) (looks_pair (congrFun (hp663 w) os) (looks_pair (congrFun (hp665 w) os) (looks_pair (congrFun (hp667 w) os) (looks_pair (congrFun (hp669 w) os) (looks_pair (congrFun (hp671 w) os) (looks_pair (congrFun (hp673 w) os) (congrFun (hp675 w) os))))))))
theorem hleft : LeftO PySem.Challenge.rw_sa0155_02.row.prog hv hLoose hX (Hook.obs (kHook hK hKa hKas)) (Hook.val (kHook hK hKa hKas)) 6362 :=
  LeftO.of_pieces (boot_open (p := PR) (N := 6362) hopen (by decide) hfence) hp655 hp653 (by decide) fun w => funext fun os => looks_pair (congrFun (hp657 w) os) (looks_pair (hseen w os) (hpK w os))
end Mn
end
section
namespace Mn
theorem allB (p : Params) : AllB (hK p) P0.fns := by
  iterate 56 refine And.intro (And.intro (by kernel_rfl) (binds_of (by kernel_rfl))) ?_
  exact True.intro
theorem allI : AllI P0 P0.fns irs0 := by
  iterate 56 refine And.intro (And.intro (by kernel_rfl) (by kernel_rfl)) ?_
  exact True.intro
theorem k_mg (p : Params) : mgB (hK p) = true := by kernel_rfl
theorem k_fn (p : Params) : P0.fns.all (fnB (hK p)) = true := by kernel_rfl
theorem k_cls (p : Params) : clsAll (hK p) P0 0 P0.clss = true := by kernel_rfl
theorem k_gt (p : Params) : P0.gtab.all (gtB (hK p)) = true := by kernel_rfl
theorem k_bt (p : Params) : biL.all (fun b => btB (hK p) (Str.ofString b.name) b.val) = true := by kernel_rfl
theorem k_br (p : Params) : btB (hK p) (Str.ofString "range") (.type "range") = true := by kernel_rfl
theorem k_bv (p : Params) : btB (hK p) (Str.ofString "reversed") (.type "reversed") = true := by kernel_rfl
theorem k_clg (p : Params) : clgB (hK p) P0.clss P0.clsN = true := by kernel_rfl
theorem k_fl : (P0.flds.map Str.ofString).Nodup := by
  have : decide (P0.flds.map Str.ofString).Nodup = true := by kernel_rfl
  exact of_decide_eq_true this
end Mn
end
section
namespace Mn
theorem hopens : (chainsOk hv && opensWell PySem.Challenge.rw_sa0155_02.row.prog && (frees PySem.Challenge.rw_sa0155_02.row.toRowW && PySem.Challenge.rw_sa0155_02.row.within.isEmpty)) = true := by kernel_rfl
theorem hwhole : PySem.Challenge.rw_sa0155_02.row.prog.tablesWhole = true := by kernel_rfl
theorem hsaid : PySem.Challenge.rw_sa0155_02.wellSaid = true := by
  rw [PySem.W.Fast.te9446332074065402090]
  kernel_rfl
theorem wk_ok {Γ : Wd} (W : WdOK Γ) (e : Γ.P = P0) : Wk (CallOK Γ) (NewOK Γ) := by
  refine ⟨fun {n f fi ir vs st Q} h1 h2 h3 w => ?_, fun {n c f vs st Q} h1 h2 w => ?_⟩
  · obtain ⟨b, o⟩ := allI.get f fi ir h1 h2
    rw [Bool.and_eq_true, decide_eq_true_eq, decide_eq_true_eq] at h3
    rw [← e] at h1 b o w
    exact call_ok W h1 b o h3.1 h3.2 w
  · rw [← e] at h1 h2
    exact new_ok W (List.getElem?_eq_getElem h1) h2 w
theorem hq2 : importsNone hv = true := by
  rw [PySem.W.Fast.te2458874890965802552]
  kernel_rfl
theorem hq1 : namesOk hv (looseW hv hLoose) (namesW hv hLoose) = true := by
  rw [PySem.W.Fast.te17448422675489707002, PySem.W.Fast.te821141287760084731]
  kernel_rfl
end Mn
local macro_rules | `(tactic| k_qdec) => `(tactic| first | exact Mn.hq1 | exact Mn.hq2)
theorem PySem.Challenge.cw_sa0155_02_holds : PySem.Challenge.rw_sa0155_02.Holds := by
  open Mn in
  refine holds_law hsaid fun said => ?_
  open Mn in
  refine holds_open (q := hv) (loose := hLoose) (Xt := hX) (XP := XL hv []) (Yf := Hook.obs (kHook hK hKa hKas)) (Ya := Hook.val (kHook hK hKa hKas)) (YP := Hook.says (kHook hK hKa hKas)) (N := 6362) hleft (Hook.of (kHook hK hKa hKas)) (Hook.keeps (kHook hK hKa hKas)) (fun s e => xl_of s (Bool.and_eq_true_iff.mp e).1) XL.keeps (by rfl) (by rfl) (by rfl) (fun s e => recFacts_of (Bool.and_eq_true_iff.mp e).2) (by rfl) said hopens ⟨rfl, rfl, rfl, rfl, rfl, hwhole⟩ ?hw ?hc
  case hw => w_witness2
  case hc =>
    k_go0
    rename_i w s0 s1 mg mb G Y fa o pm doc ho hg KX X V GL T B TE TW w9 w8 M w7 w6 hcd ns hsh hlay hL1 hr1 hl2 w4 w3 L vs w1 hL ra wl r0 hI hr hc1 hc2 K0 hD h1 tk0 F wo hwo N0 X0
    open Mn in
    let Γ : Wd := ⟨PySem.Challenge.rw_sa0155_02.row.prog, w, s1.heap, hK w.params, mg, mb, P0, 0⟩
    open Mn in
    have WW : WdOK Γ := wd_ok (Γ := Γ) KX T.g T.b T.nolimit T.builtins (k_mg _) (k_fn _) (allB _) (k_cls _) (k_gt _) (k_bt _) (k_br _) (k_bv _) (k_clg _) k_fl
    have NN := N0 (s1.heap.objs.size + 1, wo) List.mem_cons_self
    open Mn in
    refine wpAny_mono (law_entry (Γ := Γ) WW (x0 := "script") (nr := nsL.tail) (ir := irL) (n := 100) rfl rfl rfl rfl (cn := Str.ofString "names") (by kernel_rfl) ?_ ?_ NN.2.2 hL hI F ?_ ⟨_, wo, NN.1, hwo⟩ ?_ (run02 (wk_ok WW rfl) 91 ns (by omega))) ?_ ?_
    · kernel_rfl
    · kernel_rfl
    · kernel_rfl
    · exact ⟨rfl, (by decide : 1 + claimMargin + 1 + 100 ≤ recursionLimit), (by decide : 4 + 3 + 8 * 100 + 40 ≤ cLine)⟩
    · rintro fl s' ⟨rfl, hk, tk, hs'⟩
      have F' : Fr s1.heap s1.heap.objs.size h1 _ := F
      refine ⟨.inl ⟨.bool true, .bool true, [], rfl, ?_, .bool true, ?_, ?_⟩, hk, ?_, ?_⟩
      · intro cls; rfl
      · exact postW_of (by kernel_rfl) (X := true) (by kernel_rfl) rfl
      · exact fun _ => ⟨List.nodup_nil, fun a ha => nomatch ha⟩
      · rw [hs']
      · rw [hs']; exact hg
    · exact fun _ _ e => e.elim
end
