import PyProof.Rows.All
import Wide.All
import OpenK.AllK
import Wide.FinOn
import KE.KStateDown
import Lean
import HandS.ForMost
import HandS.Wide
import HandS.Conv
import HandS.Flow
import HandS.IsInst
import HandS.SortInts
import HandS.TupMul
import HandS.TupAny
import HandS.ClsMeth
import HandS.Small
import HandS.Exc
import HandS.ExcOwn
import HandS.ExcCtx
import HandS.WordsExc
import HandS.CallSlots
import HandS.Defaults
import HandS.Walk
import HandS.Zip
import HandS.Comp
import HandS.Iter
import HandS.HeadHook2
import HandS.HeadHook4
import KE.GoesEnum
import HandS.ExcInit
import HandS.ExcField
import HandS.ExcIs
import HandS.Hot
import HandS.HotCalls
import HandS.SortRule
import HandS.NamedTupSort
import HandS.Head0
import HandS.Head1
import HandS.Head2
import HandS.HeadEnd
import HandS.HeadHook1
import PySem.Challenge.RW_lastslips_k80_fewest_starts
set_option Elab.async false
set_option linter.all false
set_option maxRecDepth 100000
set_option maxHeartbeats 4000000
-- V1
set_option maxHeartbeats 1000000
namespace VL
open PySem PySem.Spec PyProof.Rows L2
inductive D where
  | non | bl (b : Bool) | int (i : Int) | str (s : Str) | tup (xs : List D) | lst (xs : List D) | ins (C : Addr) (fs : List (Str × D)) | scr (ns : List Int) | cls (n : String) | kls (C : Addr)
inductive OD where
  | st (d : D) | lst (xs : List OD) | ins (C : Addr) (fs : List (Str × OD))
mutual
def frz : OD → D
  | .st d => d
  | .lst xs => .lst (frzL xs)
  | .ins C fs => .ins C (frzF fs)
def frzL : List OD → List D
  | [] => []
  | o :: r => frz o :: frzL r
def frzF : List (Str × OD) → List (Str × D)
  | [] => []
  | p :: r => (p.1, frz p.2) :: frzF r
end
abbrev Fr := PySem.W.Frag
def Sub (S S' : Hp) : Prop := ∀ a o, S a = some o → S' a = some o
theorem Sub.refl {S : Hp} : Sub S S := fun _ _ e => e
theorem Sub.trans {S S' S'' : Hp} (a : Sub S S') (b : Sub S' S'') : Sub S S'' := fun x o e => b x o (a x o e)
theorem Sub.upd {S : Hp} {p : Addr} {o : HO} (h : S p = none) : Sub S (upd S p o) := fun x u e => by rw [upd_ne (ne_of_none e h)]; exact e
theorem Sub.upd2 {S H : Hp} {p : Addr} {o : HO} (s : Sub S H) : Sub (L2.upd S p o) (L2.upd H p o) := fun x u e => by
  by_cases hx : x = p
  · subst hx; rw [upd_same] at e ⊢; exact e
  · rw [upd_ne hx] at e ⊢; exact s x u e
theorem Sub.updR {S H : Hp} {p : Addr} {o : HO} (s : Sub S H) (h : S p = none) : Sub S (L2.upd H p o) := fun x u e => by
  rw [upd_ne (ne_of_none e h)]; exact s x u e
theorem Rd.mono {S S' : Hp} {a : Addr} {u : HO} (s : Sub S S') (r : Rd S a u) : Rd S' a u := by
  rcases r with r | ⟨o, r⟩
  · exact .inl (s _ _ r)
  · exact .inr ⟨o, s _ _ r⟩
theorem SqL.mono {K : Fr} {S S' : Hp} {a : Addr} {xs : List V} (s : Sub S S') (h : SqL K S a xs) : SqL K S' a xs := by
  rcases h with h | h
  · exact .inl (Rd.mono s h)
  · exact .inr h
theorem SqT.mono {K : Fr} {S S' : Hp} {a : Addr} {xs : List V} (s : Sub S S') (h : SqT K S a xs) : SqT K S' a xs := by
  rcases h with h | h
  · exact .inl (Rd.mono s h)
  · exact .inr h
def LsK (K : Fr) (a : Addr) (xs : List V) : Prop := ∃ (o : Obj) (its : Array Value) (n : Nat), K.lookup a = some o ∧ o.cls = .type "list" ∧ o.dict = none ∧ o.data = .seq its n ∧ its.size ≤ sizeLine ∧ Vals xs its.toList
def TpK (K : Fr) (a : Addr) (xs : List V) : Prop := ∃ (o : Obj) (its : Array Value) (n : Nat), K.lookup a = some o ∧ o.cls = .type "tuple" ∧ o.data = .seq its n ∧ its.size ≤ sizeLine ∧ Vals xs its.toList
def LL (K : Fr) (S : Hp) (a : Addr) (xs : List V) : Prop := S a = some (.lst xs) ∨ LsK K a xs
def TL (K : Fr) (S : Hp) (a : Addr) (xs : List V) : Prop := S a = some (.tup xs) ∨ TpK K a xs
theorem LL.sq {K : Fr} {S : Hp} {a : Addr} {xs : List V} (h : LL K S a xs) : SqL K S a xs := h.elim (fun h => .inl (.inl h)) .inr
theorem TL.sq {K : Fr} {S : Hp} {a : Addr} {xs : List V} (h : TL K S a xs) : SqT K S a xs := h.elim (fun h => .inl (.inl h)) .inr
theorem LL.mono {K : Fr} {S S' : Hp} {a : Addr} {xs : List V} (s : Sub S S') (h : LL K S a xs) : LL K S' a xs := h.imp (fun h => s _ _ h) id
theorem TL.mono {K : Fr} {S S' : Hp} {a : Addr} {xs : List V} (s : Sub S S') (h : TL K S a xs) : TL K S' a xs := h.imp (fun h => s _ _ h) id
mutual
inductive Rep (K : Fr) (S : Hp) : V → D → Prop where
  | non : Rep K S .non .non
  | bl {b : Bool} : Rep K S (.bl b) (.bl b)
  | int {i : Int} : Rep K S (.int i) (.int i)
  | str {x : Str} : Rep K S (.str x) (.str x)
  | scr {a : Addr} {ns : List Int} : SqL K S a (ns.map V.int) → Rep K S (.ref a) (.scr ns)
  | cls {n : String} : Rep K S (.ty n) (.cls n)
  | kls {C : Addr} : Rep K S (.ref C) (.kls C)
  | tup {a : Addr} {vs : List V} {ds : List D} : TL K S a vs → RepL K S vs ds → Rep K S (.ref a) (.tup ds)
  | lst {a : Addr} {vs : List V} {ds : List D} : S a = some (.lst vs) → RepL K S vs ds → Rep K S (.ref a) (.lst ds)
  | ins {a C dx : Addr} {fs : List (Str × V)} {gs : List (Str × D)} : S a = some (.ins C dx fs) → RepF K S fs gs → Rep K S (.ref a) (.ins C gs)
inductive RepL (K : Fr) (S : Hp) : List V → List D → Prop where
  | nil : RepL K S [] []
  | cons {v : V} {d : D} {vs : List V} {ds : List D} : Rep K S v d → RepL K S vs ds → RepL K S (v :: vs) (d :: ds)
inductive RepF (K : Fr) (S : Hp) : List (Str × V) → List (Str × D) → Prop where
  | nil : RepF K S [] []
  | cons {x : Str} {v : V} {d : D} {vs : List (Str × V)} {ds : List (Str × D)} : Rep K S v d → RepF K S vs ds → RepF K S ((x, v) :: vs) ((x, d) :: ds)
end
mutual
theorem Rep.mono {K : Fr} {S S' : Hp} (s : Sub S S') : ∀ {v : V} {d : D}, Rep K S v d → Rep K S' v d
  | _, _, .non => .non
  | _, _, .bl => .bl
  | _, _, .int => .int
  | _, _, .str => .str
  | _, _, .scr h => .scr (SqL.mono s h)
  | _, _, .cls => .cls
  | _, _, .kls => .kls
  | _, _, .tup h r => .tup (h.mono s) (RepL.mono s r)
  | _, _, .lst h r => .lst (s _ _ h) (RepL.mono s r)
  | _, _, .ins h r => .ins (s _ _ h) (RepF.mono s r)
theorem RepL.mono {K : Fr} {S S' : Hp} (s : Sub S S') : ∀ {v : List V} {d : List D}, RepL K S v d → RepL K S' v d
  | _, _, .nil => .nil
  | _, _, .cons h r => .cons (Rep.mono s h) (RepL.mono s r)
theorem RepF.mono {K : Fr} {S S' : Hp} (s : Sub S S') : ∀ {v : List (Str × V)} {d : List (Str × D)}, RepF K S v d → RepF K S' v d
  | _, _, .nil => .nil
  | _, _, .cons h r => .cons (Rep.mono s h) (RepF.mono s r)
end
theorem RepL.length {K : Fr} {S : Hp} : ∀ {vs : List V} {ds : List D}, RepL K S vs ds → vs.length = ds.length
  | _, _, .nil => rfl
  | _, _, .cons _ r => congrArg (· + 1) (RepL.length r)
theorem RepL.get {K : Fr} {S : Hp} : ∀ {vs : List V} {ds : List D} {i : Nat} {d : D}, RepL K S vs ds → ds[i]? = some d → ∃ v, vs[i]? = some v ∧ Rep K S v d
  | _, _, _, _, .nil, e => by simp at e
  | _, _, 0, _, .cons h _, e => by simp at e; subst e; exact ⟨_, rfl, h⟩
  | _, _, i + 1, _, .cons _ r, e => by
    obtain ⟨v, h1, h2⟩ := RepL.get (i := i) r (by simpa using e)
    exact ⟨v, by simpa using h1, h2⟩
theorem RepL.getV {K : Fr} {S : Hp} : ∀ {vs : List V} {ds : List D} {i : Nat} {v : V}, RepL K S vs ds → vs[i]? = some v → ∃ d, ds[i]? = some d ∧ Rep K S v d
  | _, _, _, _, .nil, e => by simp at e
  | _, _, 0, _, .cons h _, e => by simp at e; subst e; exact ⟨_, rfl, h⟩
  | _, _, i + 1, _, .cons _ r, e => by
    obtain ⟨v, h1, h2⟩ := RepL.getV (i := i) r (by simpa using e)
    exact ⟨v, by simpa using h1, h2⟩
theorem RepL.append {K : Fr} {S : Hp} : ∀ {vs ws : List V} {ds es : List D}, RepL K S vs ds → RepL K S ws es → RepL K S (vs ++ ws) (ds ++ es)
  | _, _, _, _, .nil, q => q
  | _, _, _, _, .cons h r, q => .cons h (RepL.append r q)
theorem RepL.set {K : Fr} {S : Hp} {w : V} {e : D} (hw : Rep K S w e) : ∀ {vs : List V} {ds : List D} (i : Nat), RepL K S vs ds → RepL K S (vs.set i w) (ds.set i e)
  | _, _, _, .nil => .nil
  | _, _, 0, .cons _ r => .cons hw r
  | _, _, i + 1, .cons h r => .cons h (RepL.set hw i r)
theorem RepL.take {K : Fr} {S : Hp} : ∀ {vs : List V} {ds : List D} (n : Nat), RepL K S vs ds → RepL K S (vs.take n) (ds.take n)
  | _, _, 0, _ => .nil
  | _, _, _ + 1, .nil => .nil
  | _, _, n + 1, .cons h r => .cons h (RepL.take n r)
theorem RepL.drop {K : Fr} {S : Hp} : ∀ {vs : List V} {ds : List D} (n : Nat), RepL K S vs ds → RepL K S (vs.drop n) (ds.drop n)
  | _, _, 0, r => r
  | _, _, _ + 1, .nil => .nil
  | _, _, n + 1, .cons _ r => RepL.drop n r
theorem RepL.ints {K : Fr} {S : Hp} : ∀ (ns : List Int), RepL K S (ns.map V.int) (ns.map D.int)
  | [] => .nil
  | _ :: r => .cons .int (RepL.ints r)
theorem RepL.ints_inv {K : Fr} {S : Hp} : ∀ {vs : List V} {ns : List Int}, RepL K S vs (ns.map D.int) → vs = ns.map V.int
  | _, [], .nil => rfl
  | _, n :: r, .cons h q => by
    cases h
    rw [RepL.ints_inv q]; rfl
theorem RepF.lookup {K : Fr} {S : Hp} {f : Str} : ∀ {vs : List (Str × V)} {ds : List (Str × D)} {d : D}, RepF K S vs ds → ds.lookup f = some d → ∃ v, vs.lookup f = some v ∧ Rep K S v d
  | _, _, _, .nil, e => by simp at e
  | _, _, d, .cons (x := x) h r, e => by
    simp only [List.lookup] at e ⊢
    cases hx : (f == x) with
    | true => rw [hx] at e; cases e; exact ⟨_, rfl, h⟩
    | false => rw [hx] at e; exact RepF.lookup r e
mutual
inductive Own (K : Fr) (S H : Hp) : V → OD → List Addr → Prop where
  | st {v : V} {d : D} : Rep K S v d → Own K S H v (.st d) []
  | lst {p : Addr} {vs : List V} {os : List OD} {f : List Addr} : H p = some (.lst vs) → OwnL K S H vs os f → Own K S H (.ref p) (.lst os) (p :: f)
  | ins {p C dx : Addr} {fs : List (Str × V)} {gs : List (Str × OD)} {f : List Addr} : H p = some (.ins C dx fs) → OwnF K S H fs gs f → Own K S H (.ref p) (.ins C gs) (p :: f)
inductive OwnL (K : Fr) (S H : Hp) : List V → List OD → List Addr → Prop where
  | nil : OwnL K S H [] [] []
  | cons {v : V} {o : OD} {vs : List V} {os : List OD} {f g : List Addr} : Own K S H v o f → OwnL K S H vs os g → OwnL K S H (v :: vs) (o :: os) (f ++ g)
inductive OwnF (K : Fr) (S H : Hp) : List (Str × V) → List (Str × OD) → List Addr → Prop where
  | nil : OwnF K S H [] [] []
  | cons {x : Str} {v : V} {o : OD} {vs : List (Str × V)} {os : List (Str × OD)} {f g : List Addr} : Own K S H v o f → OwnF K S H vs os g → OwnF K S H ((x, v) :: vs) ((x, o) :: os) (f ++ g)
end
mutual
theorem Own.stay {K : Fr} {S S' H H' : Hp} (s : Sub S S') : ∀ {v : V} {o : OD} {f : List Addr}, Own K S H v o f → (∀ a ∈ f, ∀ u, H a = some u → H' a = some u) → Own K S' H' v o f
  | _, _, _, .st r, _ => .st (r.mono s)
  | _, _, _, .lst e r, k => .lst (k _ List.mem_cons_self _ e) (OwnL.stay s r fun a h => k a (List.mem_cons_of_mem _ h))
  | _, _, _, .ins e r, k => .ins (k _ List.mem_cons_self _ e) (OwnF.stay s r fun a h => k a (List.mem_cons_of_mem _ h))
theorem OwnL.stay {K : Fr} {S S' H H' : Hp} (s : Sub S S') : ∀ {v : List V} {o : List OD} {f : List Addr}, OwnL K S H v o f → (∀ a ∈ f, ∀ u, H a = some u → H' a = some u) → OwnL K S' H' v o f
  | _, _, _, .nil, _ => .nil
  | _, _, _, .cons h r, k => .cons (Own.stay s h fun a m => k a (List.mem_append_left _ m)) (OwnL.stay s r fun a m => k a (List.mem_append_right _ m))
theorem OwnF.stay {K : Fr} {S S' H H' : Hp} (s : Sub S S') : ∀ {v : List (Str × V)} {o : List (Str × OD)} {f : List Addr}, OwnF K S H v o f → (∀ a ∈ f, ∀ u, H a = some u → H' a = some u) → OwnF K S' H' v o f
  | _, _, _, .nil, _ => .nil
  | _, _, _, .cons h r, k => .cons (Own.stay s h fun a m => k a (List.mem_append_left _ m)) (OwnF.stay s r fun a m => k a (List.mem_append_right _ m))
end
mutual
theorem Own.there {K : Fr} {S H : Hp} : ∀ {v : V} {o : OD} {f : List Addr}, Own K S H v o f → ∀ a ∈ f, ∃ u, H a = some u
  | _, _, _, .st _, a, h => nomatch h
  | _, _, _, .lst e r, a, h => by
    rcases List.mem_cons.mp h with rfl | h
    · exact ⟨_, e⟩
    · exact OwnL.there r a h
  | _, _, _, .ins e r, a, h => by
    rcases List.mem_cons.mp h with rfl | h
    · exact ⟨_, e⟩
    · exact OwnF.there r a h
theorem OwnL.there {K : Fr} {S H : Hp} : ∀ {v : List V} {o : List OD} {f : List Addr}, OwnL K S H v o f → ∀ a ∈ f, ∃ u, H a = some u
  | _, _, _, .nil, a, h => nomatch h
  | _, _, _, .cons h r, a, m => by
    rcases List.mem_append.mp m with m | m
    · exact Own.there h a m
    · exact OwnL.there r a m
theorem OwnF.there {K : Fr} {S H : Hp} : ∀ {v : List (Str × V)} {o : List (Str × OD)} {f : List Addr}, OwnF K S H v o f → ∀ a ∈ f, ∃ u, H a = some u
  | _, _, _, .nil, a, h => nomatch h
  | _, _, _, .cons h r, a, m => by
    rcases List.mem_append.mp m with m | m
    · exact Own.there h a m
    · exact OwnF.there r a m
end
mutual
theorem Own.rep {K : Fr} {S H S2 : Hp} (s : Sub S S2) : ∀ {v : V} {o : OD} {f : List Addr}, Own K S H v o f → (∀ a ∈ f, ∀ u, H a = some u → S2 a = some u) → Rep K S2 v (frz o)
  | _, _, _, .st r, _ => r.mono s
  | _, _, _, .lst e r, k => .lst (k _ List.mem_cons_self _ e) (OwnL.rep s r fun a h => k a (List.mem_cons_of_mem _ h))
  | _, _, _, .ins e r, k => .ins (k _ List.mem_cons_self _ e) (OwnF.rep s r fun a h => k a (List.mem_cons_of_mem _ h))
theorem OwnL.rep {K : Fr} {S H S2 : Hp} (s : Sub S S2) : ∀ {v : List V} {o : List OD} {f : List Addr}, OwnL K S H v o f → (∀ a ∈ f, ∀ u, H a = some u → S2 a = some u) → RepL K S2 v (frzL o)
  | _, _, _, .nil, _ => .nil
  | _, _, _, .cons h r, k => .cons (Own.rep s h fun a m => k a (List.mem_append_left _ m)) (OwnL.rep s r fun a m => k a (List.mem_append_right _ m))
theorem OwnF.rep {K : Fr} {S H S2 : Hp} (s : Sub S S2) : ∀ {v : List (Str × V)} {o : List (Str × OD)} {f : List Addr}, OwnF K S H v o f → (∀ a ∈ f, ∀ u, H a = some u → S2 a = some u) → RepF K S2 v (frzF o)
  | _, _, _, .nil, _ => .nil
  | _, _, _, .cons h r, k => .cons (Own.rep s h fun a m => k a (List.mem_append_left _ m)) (OwnF.rep s r fun a m => k a (List.mem_append_right _ m))
end
theorem OwnL.sts {K : Fr} {S H : Hp} : ∀ {vs : List V} {ds : List D}, RepL K S vs ds → OwnL K S H vs (ds.map OD.st) []
  | _, _, .nil => .nil
  | _, _, .cons h r => OwnL.cons (f := []) (g := []) (.st h) (OwnL.sts r)
theorem OwnL.sts_inv {K : Fr} {S H : Hp} : ∀ {vs : List V} {ds : List D} {f : List Addr}, OwnL K S H vs (ds.map OD.st) f → RepL K S vs ds ∧ f = []
  | _, [], _, .nil => ⟨.nil, rfl⟩
  | _, d :: r, _, .cons h q => by
    cases h with
    | st h =>
      obtain ⟨a, b⟩ := OwnL.sts_inv q
      subst b
      exact ⟨.cons h a, rfl⟩
theorem OwnL.length {K : Fr} {S H : Hp} : ∀ {vs : List V} {os : List OD} {f : List Addr}, OwnL K S H vs os f → vs.length = os.length
  | _, _, _, .nil => rfl
  | _, _, _, .cons _ r => congrArg (· + 1) (OwnL.length r)
theorem frzL_st : ∀ (ds : List D), frzL (ds.map OD.st) = ds
  | [] => rfl
  | d :: r => by show frz (.st d) :: frzL (r.map OD.st) = d :: r; rw [frzL_st r]; rfl
end VL
-- V2
set_option maxHeartbeats 1000000
namespace VL
open PySem PySem.Spec PyProof.Rows L2
abbrev Cl := List (V × OD)
inductive Cls (K : Fr) (S H : Hp) : Cl → List Addr → Prop where
  | nil : Cls K S H [] []
  | cons {v : V} {o : OD} {Γ : Cl} {f g : List Addr} : Own K S H v o f → Cls K S H Γ g → Cls K S H ((v, o) :: Γ) (f ++ g)
theorem Cls.stay {K : Fr} {S S' H H' : Hp} (s : Sub S S') : ∀ {Γ : Cl} {f : List Addr}, Cls K S H Γ f → (∀ a ∈ f, ∀ u, H a = some u → H' a = some u) → Cls K S' H' Γ f
  | _, _, .nil, _ => .nil
  | _, _, .cons h r, k => .cons (h.stay s fun a m => k a (List.mem_append_left _ m)) (Cls.stay s r fun a m => k a (List.mem_append_right _ m))
theorem Cls.there {K : Fr} {S H : Hp} : ∀ {Γ : Cl} {f : List Addr}, Cls K S H Γ f → ∀ a ∈ f, ∃ u, H a = some u
  | _, _, .nil, a, h => nomatch h
  | _, _, .cons h r, a, m => by
    rcases List.mem_append.mp m with m | m
    · exact h.there a m
    · exact Cls.there r a m
theorem Cls.perm {K : Fr} {S H : Hp} {Γ Γ' : Cl} (p : Γ.Perm Γ') : ∀ {f : List Addr}, Cls K S H Γ f → ∃ f', f.Perm f' ∧ Cls K S H Γ' f' := by
  induction p with
  | nil => intro f h; exact ⟨f, .refl _, h⟩
  | cons x _ ih =>
    intro f h
    cases h with
    | cons h r =>
      obtain ⟨g, pg, hg⟩ := ih r
      exact ⟨_, pg.append_left _, .cons h hg⟩
  | swap x y l =>
    intro f h
    cases h with
    | cons h r =>
      cases r with
      | cons h2 r =>
        refine ⟨_, ?_, .cons h2 (.cons h r)⟩
        rw [← List.append_assoc, ← List.append_assoc]
        exact (List.perm_append_comm).append_right _
  | trans _ _ i1 i2 =>
    intro f h
    obtain ⟨g, pg, hg⟩ := i1 h
    obtain ⟨g', pg', hg'⟩ := i2 hg
    exact ⟨g', pg.trans pg', hg'⟩
theorem Cls.append {K : Fr} {S H : Hp} : ∀ {Γ Γ' : Cl} {f f' : List Addr}, Cls K S H Γ f → Cls K S H Γ' f' → Cls K S H (Γ ++ Γ') (f ++ f')
  | _, _, _, _, .nil, q => q
  | _, _, _, _, .cons h r, q => by rw [List.append_assoc]; exact .cons h (Cls.append r q)
theorem Cls.split {K : Fr} {S H : Hp} : ∀ {Γ Γ' : Cl} {f : List Addr}, Cls K S H (Γ ++ Γ') f → ∃ f1 f2, f = f1 ++ f2 ∧ Cls K S H Γ f1 ∧ Cls K S H Γ' f2
  | [], _, f, h => ⟨[], f, rfl, .nil, h⟩
  | c :: Γ, _, _, .cons h r => by
    obtain ⟨f1, f2, e, h1, h2⟩ := Cls.split r
    exact ⟨_ ++ f1, f2, by rw [e, List.append_assoc], .cons h h1, h2⟩
structure Gh where
  S0 : Hp
  H0 : Hp
  io : List Addr
structure VSt (K : Fr) (G : Gh) (S : Hp) (Γ : Cl) (H : Hp) : Prop where
  sub : Sub S H
  keep : ∀ a o, G.H0 a = some o → a ∉ G.io → H a = some o
  ioH : ∀ a ∈ G.io, H a ≠ none
  news : ∀ a, S a ≠ none → G.S0 a ≠ none ∨ G.H0 a = none ∨ a ∈ G.io
  grow : Sub G.S0 S
  cls : ∃ fp, Cls K S H Γ fp ∧ fp.Nodup ∧ ∀ a ∈ fp, S a = none ∧ (G.H0 a = none ∨ a ∈ G.io)
section
variable {K : Fr} {G : Gh} {S H : Hp} {Γ Γ' : Cl} {v w : V} {o : OD} {d : D} {p : Addr}
theorem VSt.perm (x : VSt K G S Γ H) (q : Γ.Perm Γ') : VSt K G S Γ' H := by
  obtain ⟨fp, h, nd, fr⟩ := x.cls
  obtain ⟨fp', pf, h'⟩ := h.perm q
  exact ⟨x.sub, x.keep, x.ioH, x.news, x.grow, fp', h', pf.nodup_iff.mp nd, fun a m => fr a (pf.mem_iff.mpr m)⟩
theorem VSt.drop {c : V × OD} (x : VSt K G S (c :: Γ) H) : VSt K G S Γ H := by
  obtain ⟨fp, h, nd, fr⟩ := x.cls
  cases h with
  | cons h r => exact ⟨x.sub, x.keep, x.ioH, x.news, x.grow, _, r, (List.nodup_append.mp nd).2.1, fun a m => fr a (List.mem_append_right _ m)⟩
theorem VSt.dropL : ∀ {Γ' : Cl}, VSt K G S (Γ' ++ Γ) H → VSt K G S Γ H
  | [], x => x
  | _ :: r, x => VSt.dropL (Γ' := r) x.drop
theorem VSt.rep (x : VSt K G S ((v, .st d) :: Γ) H) : Rep K S v d := by
  obtain ⟨fp, h, _⟩ := x.cls
  cases h with
  | cons h r => cases h with
    | st h => exact h
theorem VSt.addSt (x : VSt K G S Γ H) (r : Rep K S v d) : VSt K G S ((v, .st d) :: Γ) H := by
  obtain ⟨fp, h, nd, fr⟩ := x.cls
  exact ⟨x.sub, x.keep, x.ioH, x.news, x.grow, [] ++ fp, .cons (.st r) h, nd, fr⟩
theorem VSt.read (x : VSt K G S ((v, o) :: Γ) H) : Rep K H v (frz o) := by
  obtain ⟨fp, h, _⟩ := x.cls
  cases h with
  | cons h r => exact h.rep x.sub fun _ _ _ e => e
theorem VSt.fresh0 (x : VSt K G S Γ H) (hp : H p = none) : G.H0 p = none := by
  cases e : G.H0 p with
  | none => rfl
  | some o =>
    by_cases m : p ∈ G.io
    · exact absurd hp (x.ioH p m)
    · rw [x.keep p o e m] at hp; cases hp
theorem VSt.freshS (x : VSt K G S Γ H) (hp : H p = none) : S p = none := by
  cases e : S p with
  | none => rfl
  | some o => rw [x.sub p o e] at hp; cases hp
theorem upd_none {H : Hp} {a b : Addr} {o : HO} (h : upd H b o a = none) : H a = none := by
  by_cases e : a = b
  · subst e; rw [upd_same] at h; cases h
  · rw [upd_ne e] at h; exact h
theorem upd_some {H : Hp} {a b : Addr} {o : HO} (h : H a ≠ none) : upd H b o a ≠ none := by
  by_cases e : a = b
  · subst e; rw [upd_same]; exact fun z => nomatch z
  · rw [upd_ne e]; exact h
theorem VSt.alloc {u : HO} (x : VSt K G S Γ H) (hp : H p = none) : VSt K G (upd S p u) Γ (upd H p u) := by
  have hs := x.freshS hp
  obtain ⟨fp, h, nd, fr⟩ := x.cls
  refine ⟨Sub.upd2 x.sub, fun a q e m => ?_, fun a m => upd_some (x.ioH a m), fun a n => ?_, fun a q e => ?_, fp, h.stay (Sub.upd hs) fun a m q e => ?_, nd, fun a m => ⟨?_, (fr a m).2⟩⟩
  · rw [upd_ne (ne_of_none (x.keep a q e m) hp)]; exact x.keep a q e m
  · by_cases ea : a = p
    · subst ea; exact .inr (.inl (x.fresh0 hp))
    · rw [upd_ne ea] at n; exact x.news a n
  · exact Sub.upd hs a q (x.grow a q e)
  · rw [upd_ne (ne_of_none e hp)]; exact e
  · obtain ⟨q, e⟩ := h.there a m
    rw [upd_ne (ne_of_none e hp)]; exact (fr a m).1
theorem VSt.extra {u : HO} (x : VSt K G S Γ H) (hp : H p = none) : VSt K G S Γ (upd H p u) := by
  obtain ⟨fp, h, nd, fr⟩ := x.cls
  refine ⟨Sub.updR x.sub (x.freshS hp), fun a q e m => ?_, fun a m => upd_some (x.ioH a m), x.news, x.grow, fp, h.stay Sub.refl fun a m q e => ?_, nd, fr⟩
  · rw [upd_ne (ne_of_none (x.keep a q e m) hp)]; exact x.keep a q e m
  · rw [upd_ne (ne_of_none e hp)]; exact e
theorem OwnL.ofCls : ∀ {vs : List V} {os : List OD} {fp : List Addr}, vs.length = os.length → Cls K S H (vs.zip os) fp → OwnL K S H vs os fp
  | [], [], _, _, .nil => .nil
  | v :: vs, o :: os, _, e, .cons h r => .cons h (OwnL.ofCls (by simpa using e) r)
theorem OwnL.toCls : ∀ {vs : List V} {os : List OD} {fp : List Addr}, OwnL K S H vs os fp → Cls K S H (vs.zip os) fp
  | _, _, _, .nil => .nil
  | _, _, _, .cons h r => .cons h (OwnL.toCls r)
theorem Cls.np {p : Addr} {Γ : Cl} {fp : List Addr} (h : Cls K S H Γ fp) (hp : H p = none) : p ∉ fp := fun m => by
  obtain ⟨u, e⟩ := h.there p m
  rw [hp] at e; cases e
theorem VSt.allocL {vs : List V} {os : List OD} (x : VSt K G S (vs.zip os ++ Γ) H) (hl : vs.length = os.length) (hp : H p = none) : VSt K G S ((.ref p, .lst os) :: Γ) (upd H p (.lst vs)) := by
  have y := x.extra (u := .lst vs) hp
  obtain ⟨fp, h, nd, fr⟩ := x.cls
  have np := h.np hp
  have h' := h.stay (S' := S) (H' := upd H p (.lst vs)) Sub.refl fun a m q e => by rw [upd_ne (ne_of_none e hp)]; exact e
  obtain ⟨f1, f2, rfl, h1, h2⟩ := h'.split
  exact ⟨y.sub, y.keep, y.ioH, y.news, y.grow, (p :: f1) ++ f2, .cons (.lst upd_same (OwnL.ofCls hl h1)) h2, List.nodup_cons.mpr ⟨np, nd⟩, fun a m => by
    rcases List.mem_cons.mp m with rfl | m
    · exact ⟨x.freshS hp, .inl (x.fresh0 hp)⟩
    · exact fr a m⟩
theorem VSt.allocF {vs : List V} {ds : List D} (x : VSt K G S Γ H) (r : RepL K S vs ds) (hp : H p = none) : VSt K G S ((.ref p, .lst (ds.map .st)) :: Γ) (upd H p (.lst vs)) := by
  have y := x.extra (u := .lst vs) hp
  obtain ⟨fp, h, nd, fr⟩ := x.cls
  have np := h.np hp
  have h' := h.stay (S' := S) (H' := upd H p (.lst vs)) Sub.refl fun a m q e => by rw [upd_ne (ne_of_none e hp)]; exact e
  exact ⟨y.sub, y.keep, y.ioH, y.news, y.grow, (p :: []) ++ fp, .cons (.lst upd_same (OwnL.sts r)) h', List.nodup_cons.mpr ⟨np, nd⟩, fun a m => by
    rcases List.mem_cons.mp m with rfl | m
    · exact ⟨x.freshS hp, .inl (x.fresh0 hp)⟩
    · exact fr a m⟩
theorem VSt.freeze (x : VSt K G S ((v, o) :: Γ) H) : ∃ S', Sub S S' ∧ VSt K G S' ((v, .st (frz o)) :: Γ) H := by
  classical
  obtain ⟨fp, h, nd, fr⟩ := x.cls
  cases h with
  | @cons _ _ _ f g h r =>
    have nd2 := List.nodup_append.mp nd
    refine ⟨fun a => if a ∈ f then H a else S a, fun a u e => ?_, ?_⟩
    · show (if a ∈ f then H a else S a) = some u
      by_cases m : a ∈ f
      · rw [(fr a (List.mem_append_left _ m)).1] at e; cases e
      · rw [if_neg m]; exact e
    · have s : Sub S (fun a => if a ∈ f then H a else S a) := fun a u e => by
        show (if a ∈ f then H a else S a) = some u
        by_cases m : a ∈ f
        · rw [(fr a (List.mem_append_left _ m)).1] at e; cases e
        · rw [if_neg m]; exact e
      refine ⟨fun a u e => ?_, x.keep, x.ioH, fun a n => ?_, x.grow.trans s, [] ++ g, .cons (.st (h.rep s fun a m u e => ?_)) (r.stay s fun _ _ _ e => e), nd2.2.1, fun a m => ⟨?_, (fr a (List.mem_append_right _ m)).2⟩⟩
      · have e' : (if a ∈ f then H a else S a) = some u := e
        by_cases m : a ∈ f
        · rw [if_pos m] at e'; exact e'
        · rw [if_neg m] at e'; exact x.sub a u e'
      · have n' : (if a ∈ f then H a else S a) ≠ none := n
        by_cases m : a ∈ f
        · exact .inr (fr a (List.mem_append_left _ m)).2
        · rw [if_neg m] at n'; exact x.news a n'
      · show (if a ∈ f then H a else S a) = some u
        rw [if_pos m]; exact e
      · show (if a ∈ f then H a else S a) = none
        rw [if_neg (fun z => nd2.2.2 a z a m rfl)]
        exact (fr a (List.mem_append_right _ m)).1
theorem Own.off {p : Addr} {u : HO} {v : V} {o : OD} {f : List Addr} (h : Own K S H v o f) (hp : p ∉ f) : Own K S (upd H p u) v o f :=
  h.stay Sub.refl fun a m q e => by
    have ne : a ≠ p := fun z => hp (z ▸ m)
    rw [upd_ne ne]; exact e
theorem OwnL.off {p : Addr} {u : HO} {v : List V} {o : List OD} {f : List Addr} (h : OwnL K S H v o f) (hp : p ∉ f) : OwnL K S (upd H p u) v o f :=
  h.stay Sub.refl fun a m q e => by
    have ne : a ≠ p := fun z => hp (z ▸ m)
    rw [upd_ne ne]; exact e
theorem OwnF.off {p : Addr} {u : HO} {v : List (Str × V)} {o : List (Str × OD)} {f : List Addr} (h : OwnF K S H v o f) (hp : p ∉ f) : OwnF K S (upd H p u) v o f :=
  h.stay Sub.refl fun a m q e => by
    have ne : a ≠ p := fun z => hp (z ▸ m)
    rw [upd_ne ne]; exact e
theorem Cls.off {p : Addr} {u : HO} {Γ : Cl} {f : List Addr} (h : Cls K S H Γ f) (hp : p ∉ f) : Cls K S (upd H p u) Γ f :=
  h.stay Sub.refl fun a m q e => by
    have ne : a ≠ p := fun z => hp (z ▸ m)
    rw [upd_ne ne]; exact e
theorem VSt.wr {u : HO} (x : VSt K G S Γ H) (hs : S p = none) (h0 : G.H0 p = none ∨ p ∈ G.io) (hp : H p ≠ none) {fp : List Addr} (c : Cls K S (upd H p u) Γ' fp) (nd : fp.Nodup) (fr : ∀ a ∈ fp, S a = none ∧ (G.H0 a = none ∨ a ∈ G.io)) : VSt K G S Γ' (upd H p u) := by
  refine ⟨Sub.updR x.sub hs, fun a q e m => ?_, fun a m => upd_some (x.ioH a m), x.news, x.grow, fp, c, nd, fr⟩
  rw [upd_ne (fun z => ?_)]
  · exact x.keep a q e m
  · subst z
    rcases h0 with z | z
    · rw [z] at e; cases e
    · exact m z
theorem VSt.lstAt {os : List OD} (x : VSt K G S ((v, .lst os) :: Γ) H) : ∃ p vs, v = .ref p ∧ H p = some (.lst vs) ∧ vs.length = os.length := by
  obtain ⟨fp, h, _⟩ := x.cls
  cases h with
  | cons h r => cases h with
    | lst e q => exact ⟨_, _, rfl, e, q.length⟩
theorem VSt.lstFlat {ds : List D} (x : VSt K G S ((v, .lst (ds.map .st)) :: Γ) H) : ∃ p vs, v = .ref p ∧ H p = some (.lst vs) ∧ RepL K S vs ds := by
  obtain ⟨fp, h, _⟩ := x.cls
  cases h with
  | cons h r => cases h with
    | lst e q => exact ⟨_, _, rfl, e, (OwnL.sts_inv q).1⟩
theorem OwnL.setSt (r : Rep K S w d) : ∀ {vs : List V} {os : List OD} {f : List Addr} (k : Nat), OwnL K S H vs os f → ∃ f', OwnL K S H (vs.set k w) (os.set k (.st d)) f' ∧ f'.Sublist f
  | _, _, _, _, .nil => ⟨[], .nil, .refl _⟩
  | _, _, _, 0, .cons (f := f) (g := g) h q => ⟨[] ++ g, .cons (.st r) q, List.sublist_append_right f g⟩
  | _, _, _, k + 1, .cons (f := f) (g := g) h q => by
    obtain ⟨f', h', s⟩ := OwnL.setSt r k q
    exact ⟨f ++ f', .cons h h', s.append_left f⟩
theorem VSt.setSt {os : List OD} {vs : List V} (x : VSt K G S ((.ref p, .lst os) :: Γ) H) (e : H p = some (.lst vs)) (r : Rep K S w d) (k : Nat) : VSt K G S ((.ref p, .lst (os.set k (.st d))) :: Γ) (upd H p (.lst (vs.set k w))) := by
  obtain ⟨fp, h, nd, fr⟩ := x.cls
  cases h with
  | @cons _ _ _ _ g h q => cases h with
    | @lst _ vs' _ f e' l =>
      rw [e] at e'; cases e'
      obtain ⟨f', l', s⟩ := OwnL.setSt r k l
      have hsub : ((p :: f') ++ g).Sublist ((p :: f) ++ g) := (s.cons₂ p).append_right g
      have nd' := hsub.nodup nd
      have np : p ∉ f' ++ g := (List.nodup_cons.mp nd').1
      exact x.wr (fr p (by simp)).1 (fr p (by simp)).2 (by rw [e]; exact fun z => nomatch z)
        (.cons (.lst upd_same (l'.off fun z => np (List.mem_append_left _ z))) (q.off fun z => np (List.mem_append_right _ z))) nd' fun a m => fr a (hsub.subset m)
theorem OwnL.append : ∀ {vs ws : List V} {os us : List OD} {f g : List Addr}, OwnL K S H vs os f → OwnL K S H ws us g → OwnL K S H (vs ++ ws) (os ++ us) (f ++ g)
  | _, _, _, _, _, _, .nil, q => q
  | _, _, _, _, _, _, .cons h r, q => by rw [List.append_assoc]; exact .cons h (OwnL.append r q)
theorem VSt.appendC {os : List OD} {vs : List V} (x : VSt K G S ((w, o) :: (.ref p, .lst os) :: Γ) H) (e : H p = some (.lst vs)) : VSt K G S ((.ref p, .lst (os ++ [o])) :: Γ) (upd H p (.lst (vs ++ [w]))) := by
  obtain ⟨fp, h, nd, fr⟩ := x.cls
  cases h with
  | @cons _ _ _ fo _ ho h => cases h with
    | @cons _ _ _ _ g h q => cases h with
      | @lst _ vs' _ f e' l =>
        rw [e] at e'; cases e'
        have pm : (fo ++ ((p :: f) ++ g)).Perm ((p :: (f ++ (fo ++ []))) ++ g) := by
          rw [List.append_nil]
          have : (fo ++ (p :: f ++ g)).Perm (p :: (fo ++ (f ++ g))) := List.perm_middle
          refine this.trans (List.Perm.cons p ?_)
          rw [← List.append_assoc]
          exact List.perm_append_comm.append_right g
        have nd' := pm.nodup_iff.mp nd
        have np : p ∉ (f ++ (fo ++ [])) ++ g := (List.nodup_cons.mp nd').1
        have np1 : p ∉ f := fun z => np (List.mem_append_left _ (List.mem_append_left _ z))
        have np2 : p ∉ fo := fun z => np (List.mem_append_left _ (List.mem_append_right _ (List.mem_append_left _ z)))
        have np3 : p ∉ g := fun z => np (List.mem_append_right _ z)
        exact x.wr (fr p (pm.mem_iff.mpr (by simp))).1 (fr p (pm.mem_iff.mpr (by simp))).2 (by rw [e]; exact fun z => nomatch z)
          (.cons (.lst upd_same ((l.off np1).append (.cons (ho.off np2) .nil))) (q.off np3)) nd' fun a m => fr a (pm.mem_iff.mpr m)
theorem VSt.fill {os : List OD} {vs ws : List V} {ds : List D} (x : VSt K G S ((.ref p, .lst os) :: Γ) H) (e : H p = some (.lst vs)) (r : RepL K S ws ds) : VSt K G S ((.ref p, .lst (ds.map .st)) :: Γ) (upd H p (.lst ws)) := by
  obtain ⟨fp, h, nd, fr⟩ := x.cls
  cases h with
  | @cons _ _ _ _ g h q => cases h with
    | @lst _ vs' _ f e' l =>
      have hsub : ((p :: []) ++ g).Sublist ((p :: f) ++ g) := ((List.nil_sublist f).cons₂ p).append_right g
      have nd' := hsub.nodup nd
      have np : p ∉ g := (List.nodup_cons.mp nd').1
      exact x.wr (fr p (by simp)).1 (fr p (by simp)).2 (by rw [e]; exact fun z => nomatch z) (.cons (.lst upd_same (OwnL.sts r)) (q.off np)) nd' fun a m => fr a (hsub.subset m)
theorem OwnL.at : ∀ {vs : List V} {os : List OD} {f : List Addr} {k : Nat} {o : OD}, OwnL K S H vs os f → os[k]? = some o → ∃ v f1 f2 f3, vs[k]? = some v ∧ f = f1 ++ (f2 ++ f3) ∧ Own K S H v o f2 ∧
    ∀ (H' : Hp) (o' : OD) (f2' : List Addr), (∀ a ∈ f1 ++ f3, ∀ u, H a = some u → H' a = some u) → Own K S H' v o' f2' → OwnL K S H' vs (os.set k o') (f1 ++ (f2' ++ f3))
  | _, _, _, _, _, .nil, e => by simp at e
  | _, _, _, 0, _, .cons (v := v) (f := f) (g := g) h q, e => by
    simp at e; subst e
    exact ⟨v, [], f, g, rfl, rfl, h, fun H' o' f2' k h' => (show OwnL K S H' _ _ (f2' ++ g) from .cons h' (q.stay Sub.refl fun a m => k a (by simpa using m)))⟩
  | _, _, _, k + 1, o1, .cons (f := f) (g := g) h q, e => by
    obtain ⟨v', f1, f2, f3, a, b, c, d⟩ := OwnL.at (k := k) (o := o1) q (by simpa using e)
    subst b
    refine ⟨v', f ++ f1, f2, f3, by simpa using a, by simp, c, fun H' o' f2' kk h' => ?_⟩
    rw [List.append_assoc]
    exact .cons (h.stay Sub.refl fun a m => kk a (by simp [m])) (d H' o' f2' (fun a m => kk a (by simp only [List.mem_append] at m ⊢; rcases m with m | m <;> simp [m])) h')
theorem VSt.fillAt {os : List OD} {ys : List OD} {vs ws : List V} {ds : List D} {k : Nat} (x : VSt K G S ((.ref p, .lst os) :: Γ) H) (e : H p = some (.lst vs)) (ek : os[k]? = some (.lst ys)) :
    ∃ q us, vs[k]? = some (.ref q) ∧ H q = some (.lst us) ∧ us.length = ys.length ∧ q ≠ p ∧ (∀ es, ys = es.map OD.st → RepL K S us es) ∧
      (RepL K S ws ds → VSt K G S ((.ref p, .lst (os.set k (.lst (ds.map .st)))) :: Γ) (upd H q (.lst ws))) := by
  obtain ⟨fp, h, nd, fr⟩ := x.cls
  cases h with
  | @cons _ _ _ _ g h qq => cases h with
    | @lst _ vs' _ f e' l =>
      rw [e] at e'; cases e'
      obtain ⟨v, f1, f2, f3, hv, rfl, ho, put⟩ := l.at ek
      cases ho with
      | @lst q us _ fi eq li =>
        have nd0 : (p :: ((f1 ++ ((q :: fi) ++ f3)) ++ g)).Nodup := nd
        have hq : q ∈ (f1 ++ ((q :: fi) ++ f3)) ++ g := by simp
        have qp : q ≠ p := fun z => (List.nodup_cons.mp nd0).1 (z ▸ hq)
        refine ⟨q, us, hv, eq, li.length, qp, fun es ee => by subst ee; exact (OwnL.sts_inv li).1, fun r => ?_⟩
        have hsub : (p :: ((f1 ++ ((q :: []) ++ f3)) ++ g)).Sublist (p :: ((f1 ++ ((q :: fi) ++ f3)) ++ g)) :=
          ((((((List.nil_sublist fi).cons₂ q).append_right f3).append_left f1).append_right g)).cons₂ p
        have nd' := hsub.nodup nd0
        have frq := fr q (List.mem_cons_of_mem _ hq)
        have nd3 := (List.nodup_cons.mp nd').2
        have pm : ((f1 ++ ((q :: []) ++ f3)) ++ g).Perm (q :: (f1 ++ (f3 ++ g))) := by
          simp only [List.append_assoc, List.cons_append, List.nil_append]
          exact List.perm_middle
        have nq : q ∉ f1 ++ (f3 ++ g) := (List.nodup_cons.mp (pm.nodup_iff.mp nd3)).1
        have l' := put (upd H q (.lst ws)) (.lst (ds.map .st)) (q :: []) (fun a m u ea => by rw [upd_ne (fun z => nq (by subst z; simp only [List.mem_append] at m ⊢; rcases m with m | m <;> simp [m]))]; exact ea) (.lst upd_same (OwnL.sts r))
        exact x.wr frq.1 frq.2 (by rw [eq]; exact fun z => nomatch z) (.cons (.lst (by rw [upd_ne (Ne.symm qp)]; exact e) l') (qq.off fun z => nq (by simp [z]))) nd' fun a m => fr a (hsub.subset m)
theorem VSt.part (x : VSt K G S (Γ ++ Γ') H) : ∃ fp, VSt K ⟨S, H, fp⟩ S Γ H ∧ ∀ S' H' Γ2, Sub S S' → VSt K ⟨S, H, fp⟩ S' Γ2 H' → VSt K G S' (Γ2 ++ Γ') H' := by
  obtain ⟨fp, h, nd, fr⟩ := x.cls
  obtain ⟨f1, f2, rfl, h1, h2⟩ := h.split
  have nds := List.nodup_append.mp nd
  refine ⟨f1, ⟨x.sub, fun _ _ e _ => e, fun a m => ?_, fun _ n => .inl n, Sub.refl, f1, h1, nds.1, fun a m => ⟨(fr a (List.mem_append_left _ m)).1, .inr m⟩⟩, fun S' H' Γ2 s y => ?_⟩
  · obtain ⟨u, e⟩ := h1.there a m
    rw [e]; exact fun z => nomatch z
  · obtain ⟨f3, h3, nd3, fr3⟩ := y.cls
    have there2 : ∀ a ∈ f2, ∃ u, H a = some u := fun a m => h2.there a m
    have out1 : ∀ a ∈ f2, a ∉ f1 := fun a m z => nds.2.2 a z a m rfl
    have keep2 : ∀ a ∈ f2, ∀ u, H a = some u → H' a = some u := fun a m u e => y.keep a u e (out1 a m)
    refine ⟨y.sub, fun a q e m => ?_, fun a m => ?_, fun a n => ?_, x.grow.trans s, f3 ++ f2, h3.append (h2.stay s keep2), List.nodup_append.mpr ⟨nd3, nds.2.1, fun a m b mb z => ?_⟩, fun a m => ?_⟩
    · refine y.keep a q (x.keep a q e m) fun z => ?_
      rcases (fr a (List.mem_append_left _ z)).2 with r | r
      · rw [r] at e; cases e
      · exact m r
    · cases e : H a with
      | none => exact absurd e (x.ioH a m)
      | some u =>
        by_cases z : a ∈ f1
        · exact y.ioH a z
        · rw [y.keep a u e z]; exact fun q => nomatch q
    · rcases y.news a n with r | r | r
      · exact x.news a r
      · exact .inr (.inl (x.fresh0 r))
      · exact .inr (fr a (List.mem_append_left _ r)).2
    · subst z
      obtain ⟨u, e⟩ := there2 a mb
      rcases (fr3 a m).2 with r | r
      · have r' : H a = none := r
        rw [e] at r'; cases r'
      · exact out1 a mb r
    · rcases List.mem_append.mp m with m | m
      · refine ⟨(fr3 a m).1, ?_⟩
        rcases (fr3 a m).2 with r | r
        · exact .inl (x.fresh0 r)
        · exact (fr a (List.mem_append_left _ r)).2
      · refine ⟨?_, (fr a (List.mem_append_right _ m)).2⟩
        cases e : S' a with
        | none => rfl
        | some u =>
          have n : S' a ≠ none := by rw [e]; exact fun q => nomatch q
          obtain ⟨u2, e2⟩ := there2 a m
          rcases y.news a n with r | r | r
          · exact absurd (fr a (List.mem_append_right _ m)).1 r
          · have r' : H a = none := r
            rw [e2] at r'; cases r'
          · exact absurd r (out1 a m)
end
end VL
-- V3
set_option maxHeartbeats 1000000
namespace VL
open PySem PySem.Spec PyProof.Rows L2
abbrev En := List (Option OD)
def cl : L2.St → En → Cl
  | some v :: σ, some o :: e => (v, o) :: cl σ e
  | some _ :: σ, none :: e => cl σ e
  | none :: σ, _ :: e => cl σ e
  | _, _ => []
inductive EnOk : L2.St → En → Prop where
  | nil : EnOk [] []
  | on {v : V} {o : OD} {σ : L2.St} {e : En} : EnOk σ e → EnOk (some v :: σ) (some o :: e)
  | off {x : Option V} {σ : L2.St} {e : En} : EnOk σ e → EnOk (x :: σ) (none :: e)
theorem EnOk.len : ∀ {σ : L2.St} {e : En}, EnOk σ e → σ.length = e.length
  | _, _, .nil => rfl
  | _, _, .on h => congrArg (· + 1) h.len
  | _, _, .off h => congrArg (· + 1) h.len
theorem cl_off {x : Option V} {σ : L2.St} {e : En} : cl (x :: σ) (none :: e) = cl σ e := by cases x <;> rfl
theorem EnOk.take : ∀ {σ : L2.St} {e : En} {i : Nat} {o : OD}, EnOk σ e → e[i]? = some (some o) → ∃ v, σ[i]? = some (some v) ∧ (cl σ e).Perm ((v, o) :: cl σ (e.set i none)) ∧ EnOk σ (e.set i none)
  | _, _, _, _, .nil, h => by simp at h
  | _, _, 0, _, .on (v := v) k, h => by
    simp at h; subst h
    exact ⟨v, rfl, .refl _, .off k⟩
  | _, _, i + 1, o, .on (v := v) (o := o') k, h => by
    obtain ⟨w, h1, h2, h3⟩ := EnOk.take (i := i) (o := o) k (by simpa using h)
    exact ⟨w, by simpa using h1, ((h2.cons (v, o')).trans (List.Perm.swap _ _ _)), .on h3⟩
  | _, _, 0, _, .off k, h => by simp at h
  | _, _, i + 1, o, .off k, h => by
    obtain ⟨w, h1, h2, h3⟩ := EnOk.take (i := i) (o := o) k (by simpa using h)
    refine ⟨w, by simpa using h1, ?_, .off h3⟩
    rw [List.set_cons_succ, cl_off, cl_off]
    exact h2
theorem EnOk.put : ∀ {σ : L2.St} {e : En} {i : Nat} {o : OD} {v : V}, EnOk σ e → i < σ.length → (cl (σ.set i (some v)) (e.set i (some o))).Perm ((v, o) :: cl σ (e.set i none)) ∧ EnOk (σ.set i (some v)) (e.set i (some o))
  | _, _, _, _, _, .nil, h => by simp at h
  | _, _, 0, o, v, .on k, _ => ⟨.refl _, .on k⟩
  | _, _, i + 1, o, v, .on (v := w) (o := o') k, h => by
    obtain ⟨h1, h2⟩ := EnOk.put (i := i) (o := o) (v := v) k (by simpa using h)
    exact ⟨(h1.cons (w, o')).trans (List.Perm.swap _ _ _), .on h2⟩
  | _, _, 0, o, v, .off k, _ => ⟨by rw [List.set_cons_zero, List.set_cons_zero, List.set_cons_zero, cl_off]; exact .refl _, .on k⟩
  | _, _, i + 1, o, v, .off (x := x) k, h => by
    obtain ⟨h1, h2⟩ := EnOk.put (i := i) (o := o) (v := v) k (by simpa using h)
    refine ⟨?_, .off h2⟩
    rw [List.set_cons_succ, List.set_cons_succ, List.set_cons_succ, cl_off, cl_off]
    exact h1
theorem set_same {σ : L2.St} {i : Nat} {v : V} (h : σ[i]? = some (some v)) : σ.set i (some v) = σ := by
  apply List.ext_getElem?
  intro j
  by_cases e : i = j
  · subst e
    rw [List.getElem?_set_self (List.getElem?_eq_some_iff.mp h).1, h]
  · rw [List.getElem?_set_ne e]
theorem EnOk.back {σ : L2.St} {e : En} {i : Nat} {o : OD} {v : V} (k : EnOk σ e) (h : σ[i]? = some (some v)) : (cl σ (e.set i (some o))).Perm ((v, o) :: cl σ (e.set i none)) ∧ EnOk σ (e.set i (some o)) := by
  have := k.put (i := i) (o := o) (v := v) (List.getElem?_eq_some_iff.mp h).1
  rw [set_same h] at this
  exact this
theorem EnOk.clr : ∀ {σ : L2.St} {e : En} (i : Nat), EnOk σ e → (∃ c, (cl σ e).Perm (c ++ cl σ (e.set i none))) ∧ EnOk σ (e.set i none)
  | _, _, _, .nil => ⟨⟨[], .refl _⟩, .nil⟩
  | _, _, 0, .on (v := v) (o := o) k => ⟨⟨[(v, o)], .refl _⟩, .off k⟩
  | _, _, i + 1, .on (v := v) (o := o) k => by
    obtain ⟨⟨c, p⟩, h⟩ := EnOk.clr i k
    exact ⟨⟨c, (p.cons (v, o)).trans (List.perm_middle.symm)⟩, .on h⟩
  | _, _, 0, .off k => ⟨⟨[], by rw [List.set_cons_zero, cl_off]; exact .refl _⟩, .off k⟩
  | _, _, i + 1, .off k => by
    obtain ⟨⟨c, p⟩, h⟩ := EnOk.clr i k
    refine ⟨⟨c, ?_⟩, .off h⟩
    rw [List.set_cons_succ, cl_off, cl_off]
    exact p
inductive Rv where
  | t (o : OD) | bor (i : Nat)
def rcl (v : V) : Rv → Cl
  | .t o => [(v, o)]
  | .bor _ => []
def bok (σ : L2.St) (v : V) : Rv → Prop
  | .t _ => True
  | .bor i => σ[i]? = some (some v)
def dat (e : En) : Rv → Option D
  | .t o => some (frz o)
  | .bor i => match e[i]? with
    | some (some o) => some (frz o)
    | _ => none
def datL (e : En) : List Rv → Option (List D)
  | [] => some []
  | r :: rs => match dat e r, datL e rs with
    | some d, some ds => some (d :: ds)
    | _, _ => none
abbrev TV := En → (Rv → En → Prop) → Prop
abbrev TVL := En → (List Rv → En → Prop) → Prop
abbrev TB := En → (Bool → En → Prop) → Prop
section
variable {K : Fr} {G : Gh} {S H : Hp} {Γ : Cl} {σ : L2.St} {env : En} {v : V} {r : Rv} {d : D}
theorem dat_rep (k : EnOk σ env) (x : VSt K G S (rcl v r ++ (Γ ++ cl σ env)) H) (b : bok σ v r) (e : dat env r = some d) : Rep K H v d := by
  cases r with
  | t o =>
    cases e
    exact x.read
  | bor i =>
    have e' : (match env[i]? with
      | some (some o) => some (frz o)
      | _ => none) = some d := e
    split at e'
    · rename_i o h
      cases e'
      obtain ⟨w, h1, h2, _⟩ := k.take h
      have hb : σ[i]? = some (some v) := b
      rw [h1] at hb; cases hb
      have y := x.dropL (Γ' := rcl v (.bor i)) |>.dropL
      exact (y.perm h2).read
    · cases e'
def rclL : List V → List Rv → Cl
  | v :: vs, r :: rs => rcl v r ++ rclL vs rs
  | _, _ => []
def bokL (σ : L2.St) : List V → List Rv → Prop
  | [], [] => True
  | v :: vs, r :: rs => bok σ v r ∧ bokL σ vs rs
  | _, _ => False
theorem datL_rep (k : EnOk σ env) : ∀ {vs : List V} {rs : List Rv} {ds : List D}, VSt K G S (rclL vs rs ++ (Γ ++ cl σ env)) H → bokL σ vs rs → datL env rs = some ds → RepL K H vs ds
  | [], [], _, _, _, e => by cases e; exact .nil
  | v :: vs, r :: rs, ds, x, b, e => by
    have e' : (match dat env r, datL env rs with
      | some d, some ds => some (d :: ds)
      | _, _ => none) = some ds := e
    split at e'
    · rename_i d ds' h1 h2
      cases e'
      have x1 : VSt K G S (rcl v r ++ ((rclL vs rs ++ Γ) ++ cl σ env)) H := by
        have : rclL (v :: vs) (r :: rs) ++ (Γ ++ cl σ env) = rcl v r ++ ((rclL vs rs ++ Γ) ++ cl σ env) := by
          show (rcl v r ++ rclL vs rs) ++ (Γ ++ cl σ env) = _
          simp only [List.append_assoc]
        rw [← this]; exact x
      have x2 : VSt K G S (rclL vs rs ++ (Γ ++ cl σ env)) H := by
        have z := x1.dropL (Γ' := rcl v r)
        rw [List.append_assoc] at z
        exact z
      exact .cons (dat_rep k x1 b.1 h1) (datL_rep k x2 b.2 h2)
    · cases e'
  | [], _ :: _, _, _, b, _ => b.elim
  | _ :: _, [], _, _, b, _ => b.elim
end
structure Fx where
  ios : List Nat
  s0 : L2.St
def Fix (F : Fx) (σ : L2.St) : Prop := ∀ i ∈ F.ios, σ[i]? = F.s0[i]?
theorem Fix.set {F : Fx} {σ : L2.St} {i : Nat} {v : Option V} (h : Fix F σ) (hi : i ∉ F.ios) : Fix F (σ.set i v) := fun j hj => by
  have ne : i ≠ j := fun z => hi (by rw [z]; exact hj)
  rw [List.getElem?_set_ne ne]
  exact h j hj
def Lk (K : Fr) (G : Gh) (F : Fx) (te : TE) (t : TV) : Prop := ∀ (S : Hp) (Γ : Cl) (env : En) (σ : L2.St) (H : Hp) (Q : Rv → En → Prop) (P : VK), Fix F σ → EnOk σ env → VSt K G S (Γ ++ cl σ env) H → t env Q →
  (∀ S' r env' v H', Sub S S' → EnOk σ env' → VSt K G S' (rcl v r ++ (Γ ++ cl σ env')) H' → bok σ v r → Q r env' → P v H') → te σ H P
def LkA (K : Fr) (G : Gh) (F : Fx) (ta : TA) (t : TVL) : Prop := ∀ (S : Hp) (Γ : Cl) (env : En) (σ : L2.St) (H : Hp) (Q : List Rv → En → Prop) (P : List V → Hp → Prop), Fix F σ → EnOk σ env → VSt K G S (Γ ++ cl σ env) H → t env Q →
  (∀ S' rs env' vs H', Sub S S' → EnOk σ env' → VSt K G S' (rclL vs rs ++ (Γ ++ cl σ env')) H' → bokL σ vs rs → Q rs env' → P vs H') → ta σ H P
def LkT (K : Fr) (G : Gh) (F : Fx) (tt : TT) (t : TB) : Prop := ∀ (S : Hp) (Γ : Cl) (env : En) (σ : L2.St) (H : Hp) (Q : Bool → En → Prop) (P : Bool → Hp → Prop), Fix F σ → EnOk σ env → VSt K G S (Γ ++ cl σ env) H → t env Q →
  (∀ S' b env' H', Sub S S' → EnOk σ env' → VSt K G S' (Γ ++ cl σ env') H' → Q b env' → P b H') → tt σ H P
structure VE (X : Cx) (G : Gh) (F : Fx) (e : Expr) (te : TE) (t : TV) : Prop where
  pe : PE X e te
  lk : Lk X.K G F te t
structure VA (X : Cx) (G : Gh) (F : Fx) (es : List Expr) (ta : TA) (t : TVL) : Prop where
  pa : PA X es ta
  lk : LkA X.K G F ta t
structure VT (X : Cx) (G : Gh) (F : Fx) (e : Expr) (tt : TT) (t : TB) : Prop where
  pt : PT X e tt
  lk : LkT X.K G F tt t
structure VW (X : Cx) (G : Gh) (F : Fx) (e : Expr) (tt : TT) (t : TB) : Prop where
  pw : PW X e tt
  lk : LkT X.K G F tt t
def sVar (i : Nat) : TV := fun env Q => match env[i]? with
  | some (some (.st d)) => Q (.t (.st d)) env
  | some (some _) => Q (.bor i) env
  | _ => False
theorem lk_var {K : Fr} {G : Gh} {F : Fx} (i : Nat) : Lk K G F (tVar i) (sVar i) := by
  intro S Γ env σ H Q P fx k x h fin
  have h' : (match env[i]? with
    | some (some (.st d)) => Q (.t (.st d)) env
    | some (some _) => Q (.bor i) env
    | _ => False) := h
  split at h'
  · rename_i d e
    obtain ⟨v, h1, h2, _⟩ := k.take e
    have y := (x.dropL).perm h2
    exact ⟨v, h1, fin S (.t (.st d)) env v H Sub.refl k (x.addSt y.rep) trivial h'⟩
  · rename_i o hn e
    obtain ⟨v, h1, h2, _⟩ := k.take e
    exact ⟨v, h1, fin S (.bor i) env v H Sub.refl k x h1 h'⟩
  · exact h'.elim
def sD (d : D) : TV := fun env Q => Q (.t (.st d)) env
theorem lk_c {K : Fr} {G : Gh} {F : Fx} {v : V} {d : D} (r : ∀ S, Rep K S v d) : Lk K G F (tC v) (sD d) := fun S Γ env σ H Q P fx k x h fin => fin S (.t (.st d)) env v H Sub.refl k (x.addSt (r S)) trivial h
section
variable {X : Cx} {G : Gh} {F : Fx} {a b c e : Expr} {es : List Expr} {ta tb tc te : TE} {tA : TA} {sa sb sc : TV} {pos : Pos}
theorem vv (i : Nat) {x : Str} {pos : Pos} (hN : X.N[i]? = some x := by rfl) (hv : Vis X.env.scope x := by first | exact Or.inl rfl | exact Or.inr (Or.inl rfl) | exact Or.inr (Or.inr rfl)) (hd : (x == ("__debug__" : Str)) = false := by decide)
    (hcd : (x == ("__classdict__" : Str)) = false := by decide) : VE X G F (.Name x pos) (tVar i) (sVar i) := ⟨pv i hN hv hd hcd, lk_var i⟩
theorem v_int {i : Int} {j pos} : VE X G F (.Constant (.int i) j pos) (tC (.int i)) (sD (.int i)) := ⟨pe_int, lk_c fun _ => .int⟩
theorem v_bl {i : Bool} {j pos} : VE X G F (.Constant (.bool i) j pos) (tC (.bl i)) (sD (.bl i)) := ⟨pe_bl, lk_c fun _ => .bl⟩
theorem v_non {j pos} : VE X G F (.Constant .none j pos) (tC .non) (sD .non) := ⟨pe_non, lk_c fun _ => .non⟩
theorem v_str {i : Str} {j pos} : VE X G F (.Constant (.str i) j pos) (tC (.str i)) (sD (.str i)) := ⟨pe_str, lk_c fun _ => .str⟩
theorem v_gint {x : Str} {i : Int} {t : Tok} (hg : Gl X x) (hm : X.mg x = some (.int i t)) (hd : (x == ("__debug__" : Str)) = false := by decide) : VE X G F (.Name x pos) (tC (.int i)) (sD (.int i)) := ⟨pe_glob hg hm ⟨t, rfl⟩ hd, lk_c fun _ => .int⟩
def Sc (v : V) (d : D) : Prop := ∀ (K : Fr) (S : Hp), Rep K S v d
theorem Sc.int {i : Int} : Sc (.int i) (.int i) := fun _ _ => .int
theorem Sc.bl {i : Bool} : Sc (.bl i) (.bl i) := fun _ _ => .bl
theorem Sc.str {i : Str} : Sc (.str i) (.str i) := fun _ _ => .str
theorem Sc.non : Sc .non .non := fun _ _ => .non
abbrev G2 := D → D → (D → Prop) → Prop
def Op2 (K : Fr) (r : R2) (g : G2) : Prop := ∀ (x y : V) (H : Hp) (d1 d2 : D) (Q : D → Prop) (P : VK), Rep K H x d1 → Rep K H y d2 → g d1 d2 Q → (∀ v d, Sc v d → Q d → P v H) → r x y H P
def sOp (g : G2) (sa sb : TV) : TV := fun env Q => sa env fun r1 e1 => sb e1 fun r2 e2 => match dat e2 r1, dat e2 r2 with
  | some d1, some d2 => g d1 d2 fun d => Q (.t (.st d)) e2
  | _, _ => False
theorem lk_op {K : Fr} {G : Gh} {F : Fx} {r : R2} {g : G2} (o : Op2 K r g) (ha : Lk K G F ta sa) (hb : Lk K G F tb sb) : Lk K G F (tOp r ta tb) (sOp g sa sb) := by
  intro S Γ env σ H Q P fx k x h fin
  refine ha S Γ env σ H _ _ fx k x h fun S1 r1 e1 v1 H1 s1 k1 x1 b1 h1 => ?_
  have x1' : VSt K G S1 ((rcl v1 r1 ++ Γ) ++ cl σ e1) H1 := by rw [List.append_assoc]; exact x1
  refine hb S1 (rcl v1 r1 ++ Γ) e1 σ H1 _ _ fx k1 x1' h1 fun S2 r2 e2 v2 H2 s2 k2 x2 b2 h2 => ?_
  have h2' : (match dat e2 r1, dat e2 r2 with
    | some d1, some d2 => g d1 d2 fun d => Q (.t (.st d)) e2
    | _, _ => False) := h2
  split at h2'
  · rename_i d1 d2 q1 q2
    have y2 := dat_rep k2 x2 b2 q2
    have z : VSt K G S2 (rcl v1 r1 ++ (Γ ++ cl σ e2)) H2 := by
      have z := x2.dropL
      rw [List.append_assoc] at z
      exact z
    have y1 := dat_rep k2 z b1 q1
    exact o v1 v2 H2 d1 d2 _ _ y1 y2 h2' fun v d s q => fin S2 (.t (.st d)) e2 v H2 (s1.trans s2) k2 (z.dropL.addSt (s K S2)) trivial q
  · exact h2'.elim
def gI (C : Int → Int → Prop) (g : Int → Int → D) : G2 := fun a b Q => match a, b with
  | .int i, .int j => C i j ∧ Q (g i j)
  | _, _ => False
def gI0 (g : Int → Int → D) : G2 := fun a b Q => match a, b with
  | .int i, .int j => Q (g i j)
  | _, _ => False
theorem op2_I {K : Fr} {C : Int → Int → Prop} {f : Int → Int → V} {g : Int → Int → D} (s : ∀ i j, Sc (f i j) (g i j)) : Op2 K (rI C f) (gI C g) := by
  intro x y H d1 d2 Q P r1 r2 h fin
  cases d1 <;> cases d2 <;> first | exact h.elim | skip
  cases r1; cases r2
  exact ⟨_, _, rfl, rfl, h.1, fin _ _ (s _ _) h.2⟩
theorem op2_I0 {K : Fr} {f : Int → Int → V} {g : Int → Int → D} (s : ∀ i j, Sc (f i j) (g i j)) : Op2 K (rI0 f) (gI0 g) := by
  intro x y H d1 d2 Q P r1 r2 h fin
  cases d1 <;> cases d2 <;> first | exact h.elim | skip
  cases r1; cases r2
  exact ⟨_, _, rfl, rfl, fin _ _ (s _ _) h⟩
abbrev gAdd : G2 := gI0 fun i j => .int (i + j)
abbrev gSub : G2 := gI0 fun i j => .int (i - j)
abbrev gMul : G2 := gI CMulW fun i j => .int (i * j)
abbrev gDiv : G2 := gI CDivW fun i j => .int (i / j)
abbrev gMod : G2 := gI (fun _ j => 0 < j) fun i j => .int (i % j)
abbrev gPow : G2 := gI CPow fun i j => .int (i ^ j.toNat)
abbrev gLt : G2 := gI0 fun i j => .bl (decide (i < j))
abbrev gLe : G2 := gI0 fun i j => .bl (decide (i ≤ j))
abbrev gGt : G2 := gI0 fun i j => .bl (decide (j < i))
abbrev gGe : G2 := gI0 fun i j => .bl (decide (j ≤ i))
abbrev r2Add : R2 := rI0 fun i j => .int (i + j)
abbrev r2Sub : R2 := rI0 fun i j => .int (i - j)
abbrev r2Mul : R2 := rI CMulW fun i j => .int (i * j)
abbrev r2Div : R2 := rI CDivW fun i j => .int (i / j)
abbrev r2Mod : R2 := rI (fun _ j => 0 < j) fun i j => .int (i % j)
abbrev r2Pow : R2 := rI CPow fun i j => .int (i ^ j.toNat)
theorem v_add (ha : VE X G F a ta sa) (hb : VE X G F b tb sb) : VE X G F (.BinOp a .Add b pos) (tOp r2Add ta tb) (sOp gAdd sa sb) := ⟨pe_op op_add ha.pe hb.pe, lk_op (op2_I0 fun _ _ => .int) ha.lk hb.lk⟩
theorem v_sub (ha : VE X G F a ta sa) (hb : VE X G F b tb sb) : VE X G F (.BinOp a .Sub b pos) (tOp r2Sub ta tb) (sOp gSub sa sb) := ⟨pe_op op_sub ha.pe hb.pe, lk_op (op2_I0 fun _ _ => .int) ha.lk hb.lk⟩
theorem v_mul (ha : VE X G F a ta sa) (hb : VE X G F b tb sb) : VE X G F (.BinOp a .Mult b pos) (tOp r2Mul ta tb) (sOp gMul sa sb) := ⟨pe_op op_mulW ha.pe hb.pe, lk_op (op2_I fun _ _ => .int) ha.lk hb.lk⟩
theorem v_div (ha : VE X G F a ta sa) (hb : VE X G F b tb sb) : VE X G F (.BinOp a .FloorDiv b pos) (tOp r2Div ta tb) (sOp gDiv sa sb) := ⟨pe_op op_fdivW ha.pe hb.pe, lk_op (op2_I fun _ _ => .int) ha.lk hb.lk⟩
theorem v_mod (ha : VE X G F a ta sa) (hb : VE X G F b tb sb) : VE X G F (.BinOp a .Mod b pos) (tOp r2Mod ta tb) (sOp gMod sa sb) := ⟨pe_op op_mod ha.pe hb.pe, lk_op (op2_I fun _ _ => .int) ha.lk hb.lk⟩
theorem v_pow (ha : VE X G F a ta sa) (hb : VE X G F b tb sb) : VE X G F (.BinOp a .Pow b pos) (tOp r2Pow ta tb) (sOp gPow sa sb) := ⟨pe_op op_pow ha.pe hb.pe, lk_op (op2_I fun _ _ => .int) ha.lk hb.lk⟩
def Rv.asB (r : Rv) (Q : Bool → Prop) : Prop := match r with
  | .t (.st (.bl k)) => Q k
  | _ => False
theorem Rv.asB_inv {r : Rv} {Q : Bool → Prop} (h : r.asB Q) : ∃ k, r = .t (.st (.bl k)) ∧ Q k := by
  cases r with
  | bor i => exact h.elim
  | t o => cases o with
    | lst _ => exact h.elim
    | ins _ _ => exact h.elim
    | st d => cases d <;> first | exact h.elim | exact ⟨_, rfl, h⟩
def sTst (s : TV) : TB := fun env Q => s env fun r e => r.asB fun k => Q k e
theorem lk_tst {K : Fr} {G : Gh} {F : Fx} (ha : Lk K G F ta sa) : LkT K G F (tTest ta) (sTst sa) := by
  intro S Γ env σ H Q P fx k x h fin
  refine ha S Γ env σ H _ _ fx k x h fun S1 r1 e1 v1 H1 s1 k1 x1 b1 h1 => ?_
  obtain ⟨kb, e, q⟩ := Rv.asB_inv h1
  subst e
  have z := VSt.rep x1
  cases z
  exact ⟨_, rfl, fin S1 _ e1 H1 s1 k1 x1.drop q⟩
theorem v_cmp {op : CmpOp} {r : R2} {g : G2} (ho : OpR X (compareOp op) r) (o : Op2 X.K r g) (ha : VE X G F a ta sa) (hb : VE X G F b tb sb) (hm : behindInMarks op b = false) : VE X G F (.Compare a [op] [b] pos) (tOp r ta tb) (sOp g sa sb) :=
  ⟨pe_cmpR ho ha.pe hb.pe hm, lk_op o ha.lk hb.lk⟩
theorem t_cmp {op : CmpOp} {r : R2} {g : G2} (ho : OpR X (compareOp op) r) (o : Op2 X.K r g) (ha : VE X G F a ta sa) (hb : VE X G F b tb sb) (hm : behindInMarks op b = false) : VT X G F (.Compare a [op] [b] pos) (tTest (tOp r ta tb)) (sTst (sOp g sa sb)) :=
  ⟨pt_cmpR ho ha.pe hb.pe hm, lk_tst (lk_op o ha.lk hb.lk)⟩
def gEq : G2 := fun a b Q => match a, b with
  | .int i, .int j => Q (.bl (decide (i = j)))
  | .str i, .str j => Q (.bl (decide (i = j)))
  | .bl i, .bl j => Q (.bl (decide (i = j)))
  | _, _ => False
def gNe : G2 := fun a b Q => match a, b with
  | .int i, .int j => Q (.bl (!decide (i = j)))
  | .str i, .str j => Q (.bl (!decide (i = j)))
  | .bl i, .bl j => Q (.bl (!decide (i = j)))
  | _, _ => False
theorem op2_eq {K : Fr} : Op2 K rEq gEq := by
  intro x y H d1 d2 Q P r1 r2 h fin
  cases d1 <;> cases d2 <;> first | exact h.elim | skip
  · cases r1; cases r2
    exact ⟨rfl, fin _ _ (by rename_i i j; have e : decide (V.bl i = V.bl j) = decide (i = j) := by simp
                            rw [e]; exact Sc.bl) h⟩
  · cases r1; cases r2
    exact ⟨rfl, fin _ _ (by rename_i i j; have e : decide (V.int i = V.int j) = decide (i = j) := by simp
                            rw [e]; exact Sc.bl) h⟩
  · cases r1; cases r2
    exact ⟨rfl, fin _ _ (by rename_i i j; have e : decide (V.str i = V.str j) = decide (i = j) := by simp
                            rw [e]; exact Sc.bl) h⟩
theorem op2_ne {K : Fr} : Op2 K rNe gNe := by
  intro x y H d1 d2 Q P r1 r2 h fin
  cases d1 <;> cases d2 <;> first | exact h.elim | skip
  · cases r1; cases r2
    exact ⟨rfl, fin _ _ (by rename_i i j; have e : decide (V.bl i = V.bl j) = decide (i = j) := by simp
                            rw [e]; exact Sc.bl) h⟩
  · cases r1; cases r2
    exact ⟨rfl, fin _ _ (by rename_i i j; have e : decide (V.int i = V.int j) = decide (i = j) := by simp
                            rw [e]; exact Sc.bl) h⟩
  · cases r1; cases r2
    exact ⟨rfl, fin _ _ (by rename_i i j; have e : decide (V.str i = V.str j) = decide (i = j) := by simp
                            rw [e]; exact Sc.bl) h⟩
end
end VL
-- V4
set_option maxHeartbeats 1000000
namespace VL
open PySem PySem.Spec PyProof.Rows L2
section
variable {X : Cx} {G : Gh} {F : Fx} {K : Fr} {a b c e : Expr} {es rest : List Expr} {ta tb tc te : TE} {tA : TA} {tt tu : TT} {sa sb sc : TV} {ss su : TB} {sL : TVL} {pos : Pos}
theorem lk_tb (ha : Lk K G F ta sa) : LkT K G F (tB ta) (sTst sa) := by
  intro S Γ env σ H Q P fx k x h fin
  refine ha S Γ env σ H _ _ fx k x h fun S1 r1 e1 v1 H1 s1 k1 x1 b1 h1 => ?_
  obtain ⟨kb, e, q⟩ := Rv.asB_inv h1
  subst e
  have z := VSt.rep x1
  cases z
  exact ⟨_, rfl, fin S1 _ e1 H1 s1 k1 x1.drop q⟩
theorem t_val (ha : VE X G F e te sa) (he : ∀ whole, isTrue e X.env whole = (do let v ← whole; standAt e.pos; holding [v] (truthy v)) := by intro _; rfl) : VT X G F e (tB te) (sTst sa) := ⟨pt_val ha.pe he, lk_tb ha.lk⟩
def sNotT (s : TB) : TB := fun env Q => s env fun k e => Q (!k) e
theorem t_not (h : VT X G F a tt ss) : VT X G F (.UnaryOp .Not a pos) (tNot tt) (sNotT ss) := ⟨pt_not h.pt, fun S Γ env σ H Q P fx k x hh fin => h.lk S Γ env σ H _ _ fx k x hh fun S1 b e1 H1 s1 k1 x1 q => fin S1 _ e1 H1 s1 k1 x1 q⟩
theorem w_and1 (h : VT X G F a tt ss) : VW X G F (.BoolOp .And [a] pos) tt ss := ⟨pw_and1 h.pt, h.lk⟩
theorem w_or1 (h : VT X G F a tt ss) : VW X G F (.BoolOp .Or [a] pos) tt ss := ⟨pw_or1 h.pt, h.lk⟩
def sAndT (s u : TB) : TB := fun env Q => s env fun k e => match k with
  | true => u e Q
  | false => Q false e
def sOrT (s u : TB) : TB := fun env Q => s env fun k e => match k with
  | true => Q true e
  | false => u e Q
theorem w_and (h : VT X G F a tt ss) (g : VW X G F (.BoolOp .And (b :: rest) pos) tu su) : VW X G F (.BoolOp .And (a :: b :: rest) pos) (tAnd tt tu) (sAndT ss su) :=
  ⟨pw_and h.pt g.pw, fun S Γ env σ H Q P fx k x hh fin => h.lk S Γ env σ H _ _ fx k x hh fun S1 kb e1 H1 s1 k1 x1 q => by
    cases kb with
    | true => exact iteT (g.lk S1 Γ e1 σ H1 _ _ fx k1 x1 q fun S2 b e2 H2 s2 => fin S2 b e2 H2 (s1.trans s2))
    | false => exact iteF (fin S1 _ e1 H1 s1 k1 x1 q)⟩
theorem w_or (h : VT X G F a tt ss) (g : VW X G F (.BoolOp .Or (b :: rest) pos) tu su) : VW X G F (.BoolOp .Or (a :: b :: rest) pos) (tOr tt tu) (sOrT ss su) :=
  ⟨pw_or h.pt g.pw, fun S Γ env σ H Q P fx k x hh fin => h.lk S Γ env σ H _ _ fx k x hh fun S1 kb e1 H1 s1 k1 x1 q => by
    cases kb with
    | true => exact iteT (fin S1 _ e1 H1 s1 k1 x1 q)
    | false => exact iteF (g.lk S1 Γ e1 σ H1 _ _ fx k1 x1 q fun S2 b e2 H2 s2 => fin S2 b e2 H2 (s1.trans s2))⟩
theorem t_w (h : VW X G F e tt ss) : VT X G F e tt ss := ⟨h.pw.pt, h.lk⟩
def sAndV (s u : TV) : TV := fun env Q => s env fun r e => r.asB fun k => match k with
  | true => u e Q
  | false => Q (.t (.st (.bl false))) e
def sOrV (s u : TV) : TV := fun env Q => s env fun r e => r.asB fun k => match k with
  | true => Q (.t (.st (.bl true))) e
  | false => u e Q
def sNotV (s : TV) : TV := fun env Q => s env fun r e => r.asB fun k => Q (.t (.st (.bl (!k)))) e
theorem v_one {op} (h : VE X G F a ta sa) : VE X G F (.BoolOp op [a] pos) ta sa := ⟨pe_one h.pe, h.lk⟩
theorem v_and (h : VE X G F a ta sa) (g : VE X G F (.BoolOp .And (b :: rest) pos) tb sb) : VE X G F (.BoolOp .And (a :: b :: rest) pos) (tAndV ta tb) (sAndV sa sb) :=
  ⟨pe_and h.pe g.pe, fun S Γ env σ H Q P fx k x hh fin => h.lk S Γ env σ H _ _ fx k x hh fun S1 r e1 v H1 s1 k1 x1 b1 q => by
    obtain ⟨kb, e, q⟩ := Rv.asB_inv q
    subst e
    have z := VSt.rep x1
    cases z
    refine ⟨kb, rfl, ?_⟩
    cases kb with
    | true => exact iteT (g.lk S1 Γ e1 σ H1 _ _ fx k1 x1.drop q fun S2 r e2 v H2 s2 => fin S2 r e2 v H2 (s1.trans s2))
    | false => exact iteF (fin S1 (.t (.st (.bl false))) e1 _ H1 s1 k1 (x1.drop.addSt .bl) trivial q)⟩
theorem v_or (h : VE X G F a ta sa) (g : VE X G F (.BoolOp .Or (b :: rest) pos) tb sb) : VE X G F (.BoolOp .Or (a :: b :: rest) pos) (tOrV ta tb) (sOrV sa sb) :=
  ⟨pe_or h.pe g.pe, fun S Γ env σ H Q P fx k x hh fin => h.lk S Γ env σ H _ _ fx k x hh fun S1 r e1 v H1 s1 k1 x1 b1 q => by
    obtain ⟨kb, e, q⟩ := Rv.asB_inv q
    subst e
    have z := VSt.rep x1
    cases z
    refine ⟨kb, rfl, ?_⟩
    cases kb with
    | true => exact iteT (fin S1 (.t (.st (.bl true))) e1 _ H1 s1 k1 (x1.drop.addSt .bl) trivial q)
    | false => exact iteF (g.lk S1 Γ e1 σ H1 _ _ fx k1 x1.drop q fun S2 r e2 v H2 s2 => fin S2 r e2 v H2 (s1.trans s2))⟩
theorem v_not (h : VE X G F a ta sa) : VE X G F (.UnaryOp .Not a pos) (tNotV ta) (sNotV sa) :=
  ⟨pe_not h.pe, fun S Γ env σ H Q P fx k x hh fin => h.lk S Γ env σ H _ _ fx k x hh fun S1 r e1 v H1 s1 k1 x1 b1 q => by
    obtain ⟨kb, e, q⟩ := Rv.asB_inv q
    subst e
    have z := VSt.rep x1
    cases z
    exact ⟨kb, rfl, fin S1 (.t (.st (.bl (!kb)))) e1 _ H1 s1 k1 (x1.drop.addSt .bl) trivial q⟩⟩
def sIf (s : TB) (u v : TV) : TV := fun env Q => s env fun k e => match k with
  | true => u e Q
  | false => v e Q
theorem v_if (h : VT X G F c tt ss) (ga : VE X G F a ta sa) (gb : VE X G F b tb sb) : VE X G F (.IfExp c a b pos) (tIf tt ta tb) (sIf ss sa sb) :=
  ⟨pe_ifExp h.pt ga.pe gb.pe, fun S Γ env σ H Q P fx k x hh fin => h.lk S Γ env σ H _ _ fx k x hh fun S1 kb e1 H1 s1 k1 x1 q => by
    cases kb with
    | true => exact iteT (ga.lk S1 Γ e1 σ H1 _ _ fx k1 x1 q fun S2 r e2 v H2 s2 => fin S2 r e2 v H2 (s1.trans s2))
    | false => exact iteF (gb.lk S1 Γ e1 σ H1 _ _ fx k1 x1 q fun S2 r e2 v H2 s2 => fin S2 r e2 v H2 (s1.trans s2))⟩
def isNonD : D → Bool
  | .non => true
  | _ => false
theorem isNon_rep {S : Hp} {v : V} {d : D} (r : Rep K S v d) : decide (v = .non) = isNonD d := by
  cases r <;> simp [isNonD]
def gIsN : G2 := fun a b Q => match b with
  | .non => Q (.bl (isNonD a))
  | _ => False
def gNotN : G2 := fun a b Q => match b with
  | .non => Q (.bl (!isNonD a))
  | _ => False
theorem op2_isN : Op2 K (fun x y H Q => y = .non ∧ Q (.bl (decide (x = .non))) H) gIsN := by
  intro x y H d1 d2 Q P r1 r2 h fin
  cases d2 <;> first | exact h.elim | skip
  cases r2
  exact ⟨rfl, by rw [isNon_rep r1]; exact fin _ _ .bl h⟩
theorem op2_notN : Op2 K (fun x y H Q => y = .non ∧ Q (.bl (!decide (x = .non))) H) gNotN := by
  intro x y H d1 d2 Q P r1 r2 h fin
  cases d2 <;> first | exact h.elim | skip
  cases r2
  exact ⟨rfl, by rw [isNon_rep r1]; exact fin _ _ .bl h⟩
def D.asInts : D → Option (List Int)
  | .lst ds => goI ds
  | .tup ds => goI ds
  | _ => none
where goI : List D → Option (List Int)
  | [] => some []
  | .int i :: r => match goI r with
    | some l => some (i :: l)
    | none => none
  | _ :: _ => none
theorem goI_map : ∀ (ns : List Int), D.asInts.goI (ns.map D.int) = some ns
  | [] => rfl
  | n :: r => by
    show (match D.asInts.goI (r.map D.int) with
      | some l => some (n :: l)
      | none => none) = _
    rw [goI_map r]
theorem goI_inv : ∀ {ds : List D} {ns : List Int}, D.asInts.goI ds = some ns → ds = ns.map D.int
  | [], _, h => by cases h; rfl
  | d :: r, ns, h => by
    cases d <;> first | cases h | skip
    rename_i i
    have h' : (match D.asInts.goI r with
      | some l => some (i :: l)
      | none => none) = some ns := h
    split at h'
    · rename_i l e
      cases h'
      rw [goI_inv e]; rfl
    · cases h'
theorem asInts_rep {S : Hp} {v : V} {d : D} {ns : List Int} (r : Rep K S v d) (h : d.asInts = some ns) : ∃ a, v = .ref a ∧ (SqL K S a (ns.map V.int) ∨ SqT K S a (ns.map V.int)) := by
  cases r with
  | lst hl r =>
    have e := goI_inv (show D.asInts.goI _ = some ns from h)
    subst e
    have := r.ints_inv
    subst this
    exact ⟨_, rfl, .inl (SqL.of hl)⟩
  | tup hl r =>
    have e := goI_inv (show D.asInts.goI _ = some ns from h)
    subst e
    have := r.ints_inv
    subst this
    exact ⟨_, rfl, .inr hl.sq⟩
  | _ => cases h
theorem inV_ints (i : Int) : ∀ (ns : List Int), inV (.int i) (ns.map V.int) = decide (i ∈ ns)
  | [] => rfl
  | n :: r => by
    show (eqV (.int n) (.int i) || inV (.int i) (r.map V.int)) = _
    rw [inV_ints i r]
    have : eqV (.int n) (.int i) = decide (i = n) := by
      by_cases e : i = n
      · subst e; simp [eqV]
      · rw [decide_eq_false e]
        have : ¬ n = i := fun z => e z.symm
        simp [eqV, this]
    rw [this]
    by_cases h1 : i = n <;> by_cases h2 : i ∈ r <;> simp [h1, h2]
theorem flat_ints : ∀ (ns : List Int), (ns.map V.int).all flatV = true
  | [] => rfl
  | n :: r => by simp [flatV]
def gIn (neg : Bool) : G2 := fun a b Q => match a with
  | .int i => ∃ ns, b.asInts = some ns ∧ Q (.bl (if neg then !decide (i ∈ ns) else decide (i ∈ ns)))
  | _ => False
theorem op2_in {neg : Bool} : Op2 K (rIn K neg) (gIn neg) := by
  intro x y H d1 d2 Q P r1 r2 h fin
  cases d1 <;> first | exact h.elim | skip
  cases r1
  obtain ⟨ns, e, q⟩ := h
  obtain ⟨p, ev, sq⟩ := asInts_rep r2 e
  subst ev
  refine ⟨p, _, rfl, sq, rfl, flat_ints ns, ?_⟩
  rw [inV_ints]
  exact fin _ _ .bl q
def sNil : TVL := fun env Q => Q [] env
def sCons (s : TV) (u : TVL) : TVL := fun env Q => s env fun r e => u e fun rs e2 => Q (r :: rs) e2
theorem a_nil : VA X G F [] tNil sNil := ⟨pa_nil, fun S Γ env σ H Q P fx k x h fin => fin S [] env [] H Sub.refl k x trivial h⟩
theorem a_cons (ha : VE X G F e te sa) (hr : VA X G F es tA sL) (hs : starEach (e :: es) X.env = (false, eval e X.env) :: starEach es X.env := by rfl) : VA X G F (e :: es) (tCons te tA) (sCons sa sL) :=
  ⟨pa_cons ha.pe hr.pa hs, fun S Γ env σ H Q P fx k x h fin => ha.lk S Γ env σ H _ _ fx k x h fun S1 r e1 v H1 s1 k1 x1 b1 q1 => by
    have x1' : VSt X.K G S1 ((rcl v r ++ Γ) ++ cl σ e1) H1 := by rw [List.append_assoc]; exact x1
    refine hr.lk S1 (rcl v r ++ Γ) e1 σ H1 _ _ fx k1 x1' q1 fun S2 rs e2 vs H2 s2 k2 x2 b2 q2 => ?_
    refine fin S2 (r :: rs) e2 (v :: vs) H2 (s1.trans s2) k2 (x2.perm ?_) ⟨b1, b2⟩ q2
    show (rclL vs rs ++ ((rcl v r ++ Γ) ++ cl σ e2)).Perm ((rcl v r ++ rclL vs rs) ++ (Γ ++ cl σ e2))
    rw [List.append_assoc, List.append_assoc, ← List.append_assoc, ← List.append_assoc (rcl v r)]
    exact List.perm_append_comm.append_right _⟩
theorem dropA {G : Gh} {S H : Hp} {Γ : Cl} {σ : L2.St} {env : En} {vs : List V} {rs : List Rv} (x : VSt K G S (rclL vs rs ++ (Γ ++ cl σ env)) H) : VSt K G S (Γ ++ cl σ env) H := x.dropL
abbrev GL := List D → (D → Prop) → Prop
def CbS (K : Fr) (r : List V → Hp → VK → Prop) (g : GL) : Prop := ∀ (vs : List V) (ds : List D) (H : Hp) (Q : D → Prop) (P : VK), RepL K H vs ds → g ds Q → (∀ v d, Sc v d → Q d → P v H) → r vs H P
def sCb (g : GL) (s : TVL) : TV := fun env Q => s env fun rs e => match datL e rs with
  | some ds => g ds fun d => Q (.t (.st d)) e
  | none => False
theorem lk_cb {r : List V → Hp → VK → Prop} {g : GL} (o : CbS K r g) (ha : LkA K G F tA sL) : Lk K G F (tCB r tA) (sCb g sL) := by
  intro S Γ env σ H Q P fx k x h fin
  refine ha S Γ env σ H _ _ fx k x h fun S1 rs e1 vs H1 s1 k1 x1 b1 h1 => ?_
  have h1' : (match datL e1 rs with
    | some ds => g ds fun d => Q (.t (.st d)) e1
    | none => False) := h1
  split at h1'
  · rename_i ds q
    exact o vs ds H1 _ _ (datL_rep k1 x1 b1 q) h1' fun v d s q => fin S1 (.t (.st d)) e1 v H1 s1 k1 ((dropA x1).addSt (s K S1)) trivial q
  · exact h1'.elim
theorem v_callB {x id} {p : Pos} {r : List V → Hp → VK → Prop} {g : GL} (hc : CallR X (.builtin id) r) (o : CbS X.K r g) (hg : Gl X x) (hm : X.mg x = none) (hv : bootBuiltins x = some (.builtin id)) (ha : VA X G F (e :: es) tA sL) (hn : x ≠ "__name__" := by decide) (hdb : (x == ("__debug__" : Str)) = false := by decide)
    (he : starEach (e :: es) X.env = (false, eval e X.env) :: starEach es X.env := by rfl) (hpl : (backTo pos (starEach es X.env)).any (·.1) = false := by rfl) : VE X G F (.Call (.Name x p) (e :: es) [] pos) (tCB r tA) (sCb g sL) := ⟨pe_callB hc hg hm hv ha.pa hn hdb he hpl, lk_cb o ha.lk⟩
theorem v_callT {x T} {p : Pos} {r : List V → Hp → VK → Prop} {g : GL} (hc : CallR X (.type T) r) (o : CbS X.K r g) (hg : Gl X x) (hm : X.mg x = none) (hv : bootBuiltins x = some (.type T)) (ha : VA X G F (e :: es) tA sL) (hn : x ≠ "__name__" := by decide) (hdb : (x == ("__debug__" : Str)) = false := by decide)
    (he : starEach (e :: es) X.env = (false, eval e X.env) :: starEach es X.env := by rfl) (hpl : (backTo pos (starEach es X.env)).any (·.1) = false := by rfl) : VE X G F (.Call (.Name x p) (e :: es) [] pos) (tCB r tA) (sCb g sL) := ⟨pe_callTy hc hg hm hv ha.pa hn hdb he hpl, lk_cb o ha.lk⟩
def gLen : GL := fun ds Q => match ds with
  | [.lst l] => Q (.int l.length)
  | [.tup l] => Q (.int l.length)
  | [.scr l] => Q (.int l.length)
  | [.str z] => z.length ≤ sizeLine ∧ Q (.int z.length)
  | _ => False
theorem cb_len : CbS K (fun xs H Q => ∃ x n, xs = [x] ∧ LenV K x H n ∧ Q (.int n) H) gLen := by
  intro vs ds H Q P r h fin
  cases r with
  | nil => exact h.elim
  | cons r1 r2 => cases r2 with
    | cons _ _ => exact (by
        rename_i d _ _ _ _ _ _
        cases d <;> exact (h : False).elim)
    | nil =>
      cases r1 <;> first | exact h.elim | skip
      · exact ⟨_, _, rfl, ⟨h.1, rfl⟩, fin _ _ .int h.2⟩
      · rename_i hs; exact ⟨_, _, rfl, .inl ⟨_, hs, rfl⟩, by rw [List.length_map]; exact fin _ _ .int h⟩
      · rename_i hs hr; exact ⟨_, _, rfl, .inr ⟨_, hs.sq, rfl⟩, by rw [hr.length]; exact fin _ _ .int h⟩
      · rename_i hs hr; exact ⟨_, _, rfl, .inl ⟨_, SqL.of hs, rfl⟩, by rw [hr.length]; exact fin _ _ .int h⟩
def gInt1 : GL := fun ds Q => match ds with
  | [.int i] => Q (.int i)
  | [.bl k] => Q (.int (if k then 1 else 0))
  | _ => False
theorem cb_int : CbS K (fun xs H Q => (∃ i, xs = [.int i] ∧ Q (.int i) H) ∨ ∃ k, xs = [.bl k] ∧ Q (.int (if k then 1 else 0)) H) gInt1 := by
  intro vs ds H Q P r h fin
  cases r with
  | nil => exact h.elim
  | cons r1 r2 => cases r2 with
    | cons _ _ => exact (by
        rename_i d _ _ _ _ _ _
        cases d <;> exact (h : False).elim)
    | nil =>
      cases r1 <;> first | exact h.elim | skip
      · exact .inr ⟨_, rfl, fin _ _ .int h⟩
      · exact .inl ⟨_, rfl, fin _ _ .int h⟩
def gAbs : GL := fun ds Q => match ds with
  | [.int i] => Q (.int (if i < 0 then -i else i))
  | _ => False
theorem cb_abs : CbS K (fun xs H Q => ∃ i, xs = [.int i] ∧ Q (.int (if i < 0 then -i else i)) H) gAbs := by
  intro vs ds H Q P r h fin
  cases r with
  | nil => exact h.elim
  | cons r1 r2 => cases r2 with
    | cons _ _ => exact (by
        rename_i d _ _ _ _ _ _
        cases d <;> exact (h : False).elim)
    | nil =>
      cases r1 <;> first | exact h.elim | skip
      exact ⟨_, rfl, fin _ _ .int h⟩
def gMax2 : GL := fun ds Q => match ds with
  | [.int i, .int j] => Q (.int (if j > i then j else i))
  | _ => False
def gMin2 : GL := fun ds Q => match ds with
  | [.int i, .int j] => Q (.int (if j < i then j else i))
  | _ => False
theorem cb_max2 : CbS K (fun xs H Q => ∃ i j, xs = [.int i, .int j] ∧ Q (.int (if j > i then j else i)) H) gMax2 := by
  intro vs ds H Q P r h fin
  match ds, h with
  | [.int i, .int j], h =>
    cases r with
    | cons r1 r2 => cases r2 with
      | cons r2 r3 =>
        cases r3; cases r1; cases r2
        exact ⟨_, _, rfl, fin _ _ .int h⟩
theorem cb_min2 : CbS K (fun xs H Q => ∃ i j, xs = [.int i, .int j] ∧ Q (.int (if j < i then j else i)) H) gMin2 := by
  intro vs ds H Q P r h fin
  match ds, h with
  | [.int i, .int j], h =>
    cases r with
    | cons r1 r2 => cases r2 with
      | cons r2 r3 =>
        cases r3; cases r1; cases r2
        exact ⟨_, _, rfl, fin _ _ .int h⟩
def gInts (f : List Int → (D → Prop) → Prop) : GL := fun ds Q => match ds with
  | [.lst l] => ∃ ns, D.asInts.goI l = some ns ∧ f ns Q
  | _ => False
theorem cb_ints {r : List V → Hp → VK → Prop} {f : List Int → (D → Prop) → Prop} (h0 : ∀ (a : Addr) (ns : List Int) (H : Hp) (Q : D → Prop) (P : VK), SqL K H a (ns.map V.int) → f ns Q → (∀ v d, Sc v d → Q d → P v H) → r [.ref a] H P) : CbS K r (gInts f) := by
  intro vs ds H Q P r h fin
  match ds, h with
  | [.lst l], ⟨ns, e, h⟩ =>
    cases r with
    | cons r1 r2 =>
      cases r2
      obtain ⟨p, ev, sq⟩ := asInts_rep r1 (show (D.lst l).asInts = some ns from e)
      subst ev
      cases r1 with
      | lst hl hr =>
        have e2 := goI_inv e
        subst e2
        have e3 := hr.ints_inv
        subst e3
        exact h0 _ ns H Q P (SqL.of hl) h fin
def fSum : List Int → (D → Prop) → Prop := fun ns Q => Q (.int ns.sum)
def fMax : List Int → (D → Prop) → Prop := fun ns Q => 0 < ns.length ∧ ∀ m, m ∈ ns → (∀ y, y ∈ ns → y ≤ m) → Q (.int m)
def fMin : List Int → (D → Prop) → Prop := fun ns Q => 0 < ns.length ∧ ∀ m, m ∈ ns → (∀ y, y ∈ ns → m ≤ y) → Q (.int m)
theorem cb_sum : CbS K (rSum K) (gInts fSum) := cb_ints fun a ns H Q P sq h fin => ⟨a, ns, rfl, sq, fin _ _ .int h⟩
theorem cb_max : CbS K (rMax K) (gInts fMax) := cb_ints fun a ns H Q P sq h fin => ⟨a, ns, rfl, sq, h.1, fun m h1 h2 => fin _ _ .int (h.2 m h1 h2)⟩
theorem cb_min : CbS K (rMin K) (gInts fMin) := cb_ints fun a ns H Q P sq h fin => ⟨a, ns, rfl, sq, h.1, fun m h1 h2 => fin _ _ .int (h.2 m h1 h2)⟩
end
end VL
-- V5
set_option maxHeartbeats 1000000
namespace VL
open PySem PySem.Spec PyProof.Rows L2
def allSt : List OD → Option (List D)
  | [] => some []
  | .st d :: r => match allSt r with
    | some ds => some (d :: ds)
    | none => none
  | _ :: _ => none
theorem allSt_map : ∀ (ds : List D), allSt (ds.map .st) = some ds
  | [] => rfl
  | d :: r => by
    show (match allSt (r.map .st) with
      | some ds => some (d :: ds)
      | none => none) = _
    rw [allSt_map r]
theorem allSt_inv : ∀ {os : List OD} {ds : List D}, allSt os = some ds → os = ds.map .st
  | [], _, h => by cases h; rfl
  | .lst _ :: _, _, h => by cases h
  | .ins _ _ :: _, _, h => by cases h
  | .st d :: r, ds, h => by
    have h' : (match allSt r with
      | some ds => some (d :: ds)
      | none => none) = some ds := h
    split at h'
    · rename_i l e
      cases h'
      rw [allSt_inv e]; rfl
    · cases h'
def itmO : OD → Option (Bool × List D)
  | .st (.lst ds) => some (false, ds)
  | .st (.tup ds) => some (true, ds)
  | .st (.scr ns) => some (false, ns.map .int)
  | .lst os => match allSt os with
    | some ds => some (false, ds)
    | none => none
  | _ => none
def itm (e : En) : Rv → Option (Bool × List D)
  | .t o => itmO o
  | .bor i => match e[i]? with
    | some (some o) => itmO o
    | _ => none
section
variable {X : Cx} {K : Fr} {G : Gh} {S H : Hp} {Γ : Cl} {σ : L2.St} {env : En} {v : V} {r : Rv} {d : D} {o : OD}
theorem itmO_rep {b : Bool} {ds : List D} (x : VSt K G S ((v, o) :: Γ) H) (e : itmO o = some (b, ds)) : ∃ a vs, v = .ref a ∧ (b = false → SqL K H a vs) ∧ (b = true → SqT K H a vs) ∧ RepL K S vs ds := by
  cases o with
  | ins _ _ => cases e
  | lst os =>
    have e' : (match allSt os with
      | some ds => some (false, ds)
      | none => none) = some (b, ds) := e
    split at e'
    · rename_i l h
      cases e'
      have := allSt_inv h
      subst this
      obtain ⟨p, vs, h1, h2, h3⟩ := x.lstFlat
      exact ⟨p, vs, h1, fun _ => SqL.of h2, (fun z => Bool.noConfusion z), h3⟩
    · cases e'
  | st d =>
    have r := x.rep
    cases d <;> first | cases e | skip
    · cases r with
      | tup h r => exact ⟨_, _, rfl, (fun z => Bool.noConfusion z), fun _ => (h.mono x.sub).sq, r⟩
    · cases r with
      | lst h r => exact ⟨_, _, rfl, fun _ => SqL.of (x.sub _ _ h), (fun z => Bool.noConfusion z), r⟩
    · cases r with
      | scr h => exact ⟨_, _, rfl, fun _ => SqL.mono x.sub h, (fun z => Bool.noConfusion z), RepL.ints _⟩
theorem itm_rep {b : Bool} {ds : List D} (k : EnOk σ env) (x : VSt K G S (rcl v r ++ (Γ ++ cl σ env)) H) (hb : bok σ v r) (e : itm env r = some (b, ds)) : ∃ a vs, v = .ref a ∧ (b = false → SqL K H a vs) ∧ (b = true → SqT K H a vs) ∧ RepL K S vs ds := by
  cases r with
  | t o => exact itmO_rep x e
  | bor i =>
    have e' : (match env[i]? with
      | some (some o) => itmO o
      | _ => none) = some (b, ds) := e
    split at e'
    · rename_i o h
      obtain ⟨w, h1, h2, _⟩ := k.take h
      have hb' : σ[i]? = some (some v) := hb
      rw [h1] at hb'; cases hb'
      exact itmO_rep ((x.dropL (Γ' := rcl v (.bor i)) |>.dropL).perm h2) e'
    · cases e'
theorem itm_lst {ds : List D} (k : EnOk σ env) (x : VSt K G S (rcl v r ++ (Γ ++ cl σ env)) H) (hb : bok σ v r) (e : itm env r = some (false, ds)) (hn : ∀ ns, r ≠ .t (.st (.scr ns))) (hn2 : ∀ i ns, r = .bor i → env[i]? ≠ some (some (.st (.scr ns)))) : ∃ a vs, v = .ref a ∧ H a = some (.lst vs) ∧ RepL K S vs ds := by
  have core : ∀ {o : OD} {Γ' : Cl}, (∀ ns, o ≠ .st (.scr ns)) → VSt K G S ((v, o) :: Γ') H → itmO o = some (false, ds) → ∃ a vs, v = .ref a ∧ H a = some (.lst vs) ∧ RepL K S vs ds := by
    intro o Γ' hs x e
    cases o with
    | ins _ _ => cases e
    | lst os =>
      have e' : (match allSt os with
        | some ds => some (false, ds)
        | none => none) = some (false, ds) := e
      split at e'
      · rename_i l h
        cases e'
        have := allSt_inv h
        subst this
        exact x.lstFlat
      · cases e'
    | st d =>
      have r := x.rep
      cases d <;> first | cases e | skip
      · cases r with
        | lst h r => exact ⟨_, _, rfl, x.sub _ _ h, r⟩
      · exact absurd rfl (hs _)
  cases r with
  | t o => exact core (fun ns z => hn ns (by rw [z])) x e
  | bor i =>
    have e' : (match env[i]? with
      | some (some o) => itmO o
      | _ => none) = some (false, ds) := e
    split at e'
    · rename_i o h
      obtain ⟨w, h1, h2, _⟩ := k.take h
      have hb' : σ[i]? = some (some v) := hb
      rw [h1] at hb'; cases hb'
      exact core (fun ns z => hn2 i ns rfl (by rw [h, z])) ((x.dropL (Γ' := rcl v (.bor i)) |>.dropL).perm h2) e'
    · cases e'
theorem itmO_tup {ds : List D} (e : itmO o = some (true, ds)) : o = .st (.tup ds) := by
  cases o with
  | ins _ _ => cases e
  | lst os =>
    have e' : (match allSt os with
      | some ds => some (false, ds)
      | none => none) = some (true, ds) := e
    split at e' <;> cases e'
  | st d => cases d <;> cases e <;> rfl
theorem itm_tup {ds : List D} (k : EnOk σ env) (x : VSt K G S (rcl v r ++ (Γ ++ cl σ env)) H) (hb : bok σ v r) (e : itm env r = some (true, ds)) : Rep K S v (.tup ds) := by
  cases r with
  | t o =>
    have := itmO_tup e
    subst this
    exact x.rep
  | bor i =>
    have e' : (match env[i]? with
      | some (some o) => itmO o
      | _ => none) = some (true, ds) := e
    split at e'
    · rename_i o h
      obtain ⟨w, h1, h2, _⟩ := k.take h
      have hb' : σ[i]? = some (some v) := hb
      rw [h1] at hb'; cases hb'
      have := itmO_tup e'
      subst this
      exact ((x.dropL (Γ' := rcl v (.bor i)) |>.dropL).perm h2).rep
    · cases e'
def allT : List Rv → Option (List OD)
  | [] => some []
  | .t o :: r => match allT r with
    | some os => some (o :: os)
    | none => none
  | _ :: _ => none
theorem allT_rcl {σ : L2.St} : ∀ {rs : List Rv} {os : List OD} {vs : List V}, allT rs = some os → bokL σ vs rs → rclL vs rs = vs.zip os ∧ vs.length = os.length
  | [], _, [], h, _ => by cases h; exact ⟨rfl, rfl⟩
  | .t o :: r, os, v :: vs, h, b => by
    have h' : (match allT r with
      | some os => some (o :: os)
      | none => none) = some os := h
    split at h'
    · rename_i l e
      cases h'
      obtain ⟨h1, h2⟩ := allT_rcl e b.2
      exact ⟨by show [(v, o)] ++ rclL vs r = (v, o) :: vs.zip l; rw [h1]; rfl, congrArg (· + 1) h2⟩
    · cases h'
  | .bor _ :: _, _, _, h, _ => by cases h
  | [], _, _ :: _, _, b => b.elim
  | .t _ :: _, _, [], _, b => b.elim
theorem VSt.freezeL : ∀ {S : Hp} {vs : List V} {os : List OD}, vs.length = os.length → VSt K G S (vs.zip os ++ Γ) H → ∃ S', Sub S S' ∧ VSt K G S' Γ H ∧ RepL K S' vs (frzL os)
  | S, [], [], _, x => ⟨S, Sub.refl, x, .nil⟩
  | S, v :: vs, o :: os, e, x => by
    obtain ⟨S1, s1, x1⟩ := VSt.freeze x
    have r1 := x1.rep
    obtain ⟨S2, s2, x2, r2⟩ := VSt.freezeL (vs := vs) (os := os) (by simpa using e) x1.drop
    exact ⟨S2, s1.trans s2, x2, .cons (r1.mono s2) r2⟩
end
section
variable {X : Cx} {G : Gh} {F : Fx} {K : Fr} {a b c e : Expr} {es rest : List Expr} {ta tb tc te : TE} {tA : TA} {sa sb sc : TV} {sL : TVL} {pos : Pos}
def sLst (s : TVL) : TV := fun env Q => s env fun rs e => match allT rs with
  | some os => os.length ≤ sizeLine ∧ Q (.t (.lst os)) e
  | none => False
def sTup (s : TVL) : TV := fun env Q => s env fun rs e => match allT rs with
  | some os => os.length ≤ sizeLine ∧ Q (.t (.st (.tup (frzL os)))) e
  | none => False
theorem v_lst (h : VA X G F es tA sL) : VE X G F (.List es pos) (tLst tA) (sLst sL) :=
  ⟨pe_lst h.pa, fun S Γ env σ H Q P fx k x hh fin => h.lk S Γ env σ H _ _ fx k x hh fun S1 rs e1 vs H1 s1 k1 x1 b1 q1 => by
    have q1' : (match allT rs with
      | some os => os.length ≤ sizeLine ∧ Q (.t (.lst os)) e1
      | none => False) := q1
    split at q1'
    · rename_i os ho
      obtain ⟨h1, h2⟩ := allT_rcl ho b1
      rw [h1] at x1
      exact ⟨by rw [h2]; exact q1'.1, fun p hp => fin S1 (.t (.lst os)) e1 (.ref p) _ s1 k1 (x1.allocL h2 hp) trivial q1'.2⟩
    · exact q1'.elim⟩
theorem v_tup {x1} (h : VA X G F es tA sL) : VE X G F (.Tuple es x1 pos) (tTup tA) (sTup sL) :=
  ⟨pe_tup h.pa, fun S Γ env σ H Q P fx k x hh fin => h.lk S Γ env σ H _ _ fx k x hh fun S1 rs e1 vs H1 s1 k1 x1 b1 q1 => by
    have q1' : (match allT rs with
      | some os => os.length ≤ sizeLine ∧ Q (.t (.st (.tup (frzL os)))) e1
      | none => False) := q1
    split at q1'
    · rename_i os ho
      obtain ⟨h1, h2⟩ := allT_rcl ho b1
      rw [h1] at x1
      refine ⟨by rw [h2]; exact q1'.1, fun p hp => ?_⟩
      obtain ⟨S2, s2, x2, r2⟩ := VSt.freezeL h2 x1
      have s3 : Sub S2 (upd S2 p (.tup vs)) := Sub.upd (x2.freshS hp)
      exact fin _ (.t (.st (.tup (frzL os)))) e1 (.ref p) _ (s1.trans (s2.trans s3)) k1 ((x2.alloc hp).addSt (.tup (.inl upd_same) (r2.mono s3))) trivial q1'.2
    · exact q1'.elim⟩
def sCopyL (s : TVL) : TV := fun env Q => s env fun rs e => match rs with
  | [r] => match itm e r with
    | some (_, ds) => Q (.t (.lst (ds.map .st))) e
    | none => False
  | _ => False
def sCopyT (s : TVL) : TV := fun env Q => s env fun rs e => match rs with
  | [r] => match itm e r with
    | some (_, ds) => Q (.t (.st (.tup ds))) e
    | none => False
  | _ => False
theorem bokL1 {σ : L2.St} {vs : List V} {r : Rv} (b : bokL σ vs [r]) : ∃ v, vs = [v] ∧ bok σ v r := by
  cases vs with
  | nil => exact b.elim
  | cons v vs => cases vs with
    | nil => exact ⟨v, rfl, b.1⟩
    | cons _ _ => exact b.2.elim
theorem rcl1 {v : V} {r : Rv} {Γ : Cl} : rclL [v] [r] ++ Γ = rcl v r ++ Γ := by
  show (rcl v r ++ []) ++ Γ = _
  rw [List.append_nil]
def rListOf (K : Fr) : List V → Hp → VK → Prop := fun xs H Q => ∃ p ys, xs = [.ref p] ∧ (SqL K H p ys ∨ SqT K H p ys) ∧ ∀ l, H l = none → Q (.ref l) (upd H l (.lst ys))
def rTupOf (K : Fr) : List V → Hp → VK → Prop := fun xs H Q => ∃ p ys, xs = [.ref p] ∧ ((SqL K H p ys ∧ ∀ l, H l = none → Q (.ref l) (upd H l (.tup ys))) ∨ (SqT K H p ys ∧ Q (.ref p) H))
theorem lk_copyL (ha : LkA K G F tA sL) : Lk K G F (tCB (rListOf K) tA) (sCopyL sL) := by
  intro S Γ env σ H Q P fx k x h fin
  refine ha S Γ env σ H _ _ fx k x h fun S1 rs e1 vs H1 s1 k1 x1 b1 h1 => ?_
  match rs, b1, h1, x1 with
  | [r], b1, h1, x1 =>
    obtain ⟨v, ev, bv⟩ := bokL1 b1
    subst ev
    rw [rcl1] at x1
    have h1' : (match itm e1 r with
      | some (_, ds) => Q (.t (.lst (ds.map .st))) e1
      | none => False) := h1
    split at h1'
    · rename_i b ds hi
      obtain ⟨a, vs, ea, q1, q2, rr⟩ := itm_rep k1 x1 bv hi
      subst ea
      refine ⟨a, vs, rfl, (by cases b with
        | false => exact .inl (q1 rfl)
        | true => exact .inr (q2 rfl)), fun l hl => ?_⟩
      exact fin S1 (.t (.lst (ds.map .st))) e1 _ _ s1 k1 (x1.dropL.allocF rr hl) trivial h1'
    · exact h1'.elim
theorem lk_copyT (ha : LkA K G F tA sL) : Lk K G F (tCB (rTupOf K) tA) (sCopyT sL) := by
  intro S Γ env σ H Q P fx k x h fin
  refine ha S Γ env σ H _ _ fx k x h fun S1 rs e1 vs H1 s1 k1 x1 b1 h1 => ?_
  match rs, b1, h1, x1 with
  | [r], b1, h1, x1 =>
    obtain ⟨v, ev, bv⟩ := bokL1 b1
    subst ev
    rw [rcl1] at x1
    have h1' : (match itm e1 r with
      | some (_, ds) => Q (.t (.st (.tup ds))) e1
      | none => False) := h1
    split at h1'
    · rename_i b ds hi
      cases b with
      | false =>
        obtain ⟨a, vs, ea, q1, q2, rr⟩ := itm_rep k1 x1 bv hi
        subst ea
        refine ⟨a, vs, rfl, .inl ⟨q1 rfl, fun l hl => ?_⟩⟩
        have x2 := x1.dropL
        have s3 : Sub S1 (upd S1 l (.tup vs)) := Sub.upd (x2.freshS hl)
        exact fin _ (.t (.st (.tup ds))) e1 _ _ (s1.trans s3) k1 ((x2.alloc hl).addSt (.tup (.inl upd_same) (rr.mono s3))) trivial h1'
      | true =>
        obtain ⟨a, vs, ea, q1, q2, rr⟩ := itm_rep k1 x1 bv hi
        subst ea
        exact ⟨a, vs, rfl, .inr ⟨q2 rfl, fin S1 (.t (.st (.tup ds))) e1 _ _ s1 k1 (x1.dropL.addSt (itm_tup k1 x1 bv hi)) trivial h1'⟩⟩
    · exact h1'.elim
theorem v_callTF {x T} {p : Pos} {r : List V → Hp → VK → Prop} {t : TV} (hc : CallR X (.type T) r) (o : Lk X.K G F (tCB r tA) t) (hg : Gl X x) (hm : X.mg x = none) (hv : bootBuiltins x = some (.type T)) (ha : VA X G F (e :: es) tA sL) (hn : x ≠ "__name__" := by decide) (hdb : (x == ("__debug__" : Str)) = false := by decide)
    (he : starEach (e :: es) X.env = (false, eval e X.env) :: starEach es X.env := by rfl) (hpl : (backTo pos (starEach es X.env)).any (·.1) = false := by rfl) : VE X G F (.Call (.Name x p) (e :: es) [] pos) (tCB r tA) t := ⟨pe_callTy hc hg hm hv ha.pa hn hdb he hpl, o⟩
theorem v_callBF {x id} {p : Pos} {r : List V → Hp → VK → Prop} {t : TV} (hc : CallR X (.builtin id) r) (o : Lk X.K G F (tCB r tA) t) (hg : Gl X x) (hm : X.mg x = none) (hv : bootBuiltins x = some (.builtin id)) (ha : VA X G F (e :: es) tA sL) (hn : x ≠ "__name__" := by decide) (hdb : (x == ("__debug__" : Str)) = false := by decide)
    (he : starEach (e :: es) X.env = (false, eval e X.env) :: starEach es X.env := by rfl) (hpl : (backTo pos (starEach es X.env)).any (·.1) = false := by rfl) : VE X G F (.Call (.Name x p) (e :: es) [] pos) (tCB r tA) t := ⟨pe_callB hc hg hm hv ha.pa hn hdb he hpl, o⟩
theorem v_list {x} {p : Pos} (hg : Gl X x) (hm : X.mg x = none) (hv : bootBuiltins x = some (.type "list")) (ha : VA X G F [e] tA sL) (hn : x ≠ "__name__" := by decide) (hdb : (x == ("__debug__" : Str)) = false := by decide)
    (he : starEach [e] X.env = (false, eval e X.env) :: starEach [] X.env := by rfl) (hpl : (backTo pos (starEach [] X.env)).any (·.1) = false := by rfl) : VE X G F (.Call (.Name x p) [e] [] pos) (tCB (rListOf X.K) tA) (sCopyL sL) := v_callTF call_list_of (lk_copyL ha.lk) hg hm hv ha hn hdb he hpl
theorem v_tuple {x} {p : Pos} (hg : Gl X x) (hm : X.mg x = none) (hv : bootBuiltins x = some (.type "tuple")) (ha : VA X G F [e] tA sL) (hn : x ≠ "__name__" := by decide) (hdb : (x == ("__debug__" : Str)) = false := by decide)
    (he : starEach [e] X.env = (false, eval e X.env) :: starEach [] X.env := by rfl) (hpl : (backTo pos (starEach [] X.env)).any (·.1) = false := by rfl) : VE X G F (.Call (.Name x p) [e] [] pos) (tCB (rTupOf X.K) tA) (sCopyT sL) := v_callTF call_tuple_of (lk_copyT ha.lk) hg hm hv ha hn hdb he hpl
def sSorted (s : TVL) : TV := fun env Q => s env fun rs e => match datL e rs with
  | some [.lst l] => ∃ ns, D.asInts.goI l = some ns ∧ ∀ ns' : List Int, ns'.Perm ns → ns'.Pairwise (· ≤ ·) → Q (.t (.lst ((ns'.map D.int).map .st))) e
  | _ => False
theorem lk_sorted (ha : LkA K G F tA sL) : Lk K G F (tCB (rSortedI K) tA) (sSorted sL) := by
  intro S Γ env σ H Q P fx k x h fin
  refine ha S Γ env σ H _ _ fx k x h fun S1 rs e1 vs H1 s1 k1 x1 b1 h1 => ?_
  have h1' : (match datL e1 rs with
    | some [.lst l] => ∃ ns, D.asInts.goI l = some ns ∧ ∀ ns' : List Int, ns'.Perm ns → ns'.Pairwise (· ≤ ·) → Q (.t (.lst ((ns'.map D.int).map .st))) e1
    | _ => False) := h1
  split at h1'
  · rename_i l q
    obtain ⟨ns, e, h2⟩ := h1'
    have rr := datL_rep k1 x1 b1 q
    cases rr with
    | cons r1 r2 =>
      cases r2
      cases r1 with
      | lst hl hr =>
        have e2 := goI_inv e
        subst e2
        have e3 := hr.ints_inv
        subst e3
        exact ⟨_, ns, rfl, SqL.of hl, fun ns' p pm pw hp => fin S1 (.t (.lst ((ns'.map D.int).map .st))) e1 _ _ s1 k1 ((dropA x1).allocF (RepL.ints ns') hp) trivial (h2 ns' pm pw)⟩
  · exact h1'.elim
theorem v_sorted {x} {p : Pos} (hg : Gl X x) (hm : X.mg x = none) (hv : bootBuiltins x = some (.builtin "sorted")) (ha : VA X G F [e] tA sL) (hn : x ≠ "__name__" := by decide) (hdb : (x == ("__debug__" : Str)) = false := by decide)
    (he : starEach [e] X.env = (false, eval e X.env) :: starEach [] X.env := by rfl) (hpl : (backTo pos (starEach [] X.env)).any (·.1) = false := by rfl) : VE X G F (.Call (.Name x p) [e] [] pos) (tCB (rSortedI X.K) tA) (sSorted sL) := v_callBF cr_sortedI (lk_sorted ha.lk) hg hm hv ha hn hdb he hpl
def sOp2 (g : Rv → Rv → En → (Rv → Prop) → Prop) (sa sb : TV) : TV := fun env Q => sa env fun r1 e1 => sb e1 fun r2 e2 => g r1 r2 e2 fun r => Q r e2
def Op2F (K : Fr) (r : R2) (g : Rv → Rv → En → (Rv → Prop) → Prop) : Prop := ∀ (G : Gh) (S : Hp) (Γ : Cl) (env : En) (σ : L2.St) (H : Hp) (Q : Rv → Prop) (r1 r2 : Rv) (v1 v2 : V) (P : VK), EnOk σ env → VSt K G S (rcl v2 r2 ++ (rcl v1 r1 ++ (Γ ++ cl σ env))) H → bok σ v1 r1 → bok σ v2 r2 → g r1 r2 env Q →
      (∀ S' o v H', Sub S S' → VSt K G S' ((v, o) :: (Γ ++ cl σ env)) H' → Q (.t o) → P v H') → r v1 v2 H P
theorem lk_op2 {K : Fr} {G : Gh} {F : Fx} {r : R2} {g : Rv → Rv → En → (Rv → Prop) → Prop} (o : Op2F K r g) (ha : Lk K G F ta sa) (hb : Lk K G F tb sb) : Lk K G F (tOp r ta tb) (sOp2 g sa sb) := by
  intro S Γ env σ H Q P fx k x h fin
  refine ha S Γ env σ H _ _ fx k x h fun S1 r1 e1 v1 H1 s1 k1 x1 b1 h1 => ?_
  have x1' : VSt K G S1 ((rcl v1 r1 ++ Γ) ++ cl σ e1) H1 := by rw [List.append_assoc]; exact x1
  refine hb S1 (rcl v1 r1 ++ Γ) e1 σ H1 _ _ fx k1 x1' h1 fun S2 r2 e2 v2 H2 s2 k2 x2 b2 h2 => ?_
  rw [List.append_assoc] at x2
  exact o G S2 Γ e2 σ H2 _ r1 r2 v1 v2 P k2 x2 b1 b2 h2 fun S' o v H' s x q => fin S' (.t o) e2 v H' (s1.trans (s2.trans s)) k2 x trivial q
theorem swp {v1 v2 : V} {r1 r2 : Rv} {Γ : Cl} : (rcl v2 r2 ++ (rcl v1 r1 ++ Γ)).Perm (rcl v1 r1 ++ (rcl v2 r2 ++ Γ)) := by
  rw [← List.append_assoc, ← List.append_assoc]
  exact List.perm_append_comm.append_right _
def lsO : OD → Option (List D)
  | .st (.lst ds) => some ds
  | .lst os => allSt os
  | _ => none
def ls (e : En) : Rv → Option (List D)
  | .t o => lsO o
  | .bor i => match e[i]? with
    | some (some o) => lsO o
    | _ => none
theorem lsO_rep {G : Gh} {S H : Hp} {Γ : Cl} {v : V} {o : OD} {ds : List D} (x : VSt K G S ((v, o) :: Γ) H) (e : lsO o = some ds) : ∃ a vs, v = .ref a ∧ H a = some (.lst vs) ∧ RepL K S vs ds := by
  cases o with
  | ins _ _ => cases e
  | lst os =>
    have := allSt_inv (show allSt os = some ds from e)
    subst this
    exact x.lstFlat
  | st d =>
    have r := x.rep
    cases d <;> cases e
    cases r with
    | lst h r => exact ⟨_, _, rfl, x.sub _ _ h, r⟩
theorem ls_rep {G : Gh} {S H : Hp} {Γ : Cl} {σ : L2.St} {env : En} {v : V} {r : Rv} {ds : List D} (k : EnOk σ env) (x : VSt K G S (rcl v r ++ (Γ ++ cl σ env)) H) (hb : bok σ v r) (e : ls env r = some ds) : ∃ a vs, v = .ref a ∧ H a = some (.lst vs) ∧ RepL K S vs ds := by
  cases r with
  | t o => exact lsO_rep x e
  | bor i =>
    have e' : (match env[i]? with
      | some (some o) => lsO o
      | _ => none) = some ds := e
    split at e'
    · rename_i o h
      obtain ⟨w, h1, h2, _⟩ := k.take h
      have hb' : σ[i]? = some (some v) := hb
      rw [h1] at hb'; cases hb'
      exact lsO_rep ((x.dropL (Γ' := rcl v (.bor i)) |>.dropL).perm h2) e'
    · cases e'
def gCat (r1 r2 : Rv) (e : En) (Q : Rv → Prop) : Prop := match ls e r1, ls e r2 with
  | some xs, some ys => xs.length + ys.length ≤ sizeLine ∧ Q (.t (.lst ((xs ++ ys).map .st)))
  | _, _ => False
theorem op2_cat : Op2F K rCat gCat := by
  intro G S Γ env σ H Q r1 r2 v1 v2 P k x b1 b2 h fin
  have h' : (match ls env r1, ls env r2 with
    | some xs, some ys => xs.length + ys.length ≤ sizeLine ∧ Q (.t (.lst ((xs ++ ys).map .st)))
    | _, _ => False) := h
  split at h'
  · rename_i xs ys e1 e2
    obtain ⟨p1, vs1, q1, m1, rr1⟩ := ls_rep k (x.dropL) b1 e1
    obtain ⟨p2, vs2, q2, m2, rr2⟩ := ls_rep k ((x.perm swp).dropL) b2 e2
    subst q1; subst q2
    refine ⟨p1, p2, vs1, vs2, rfl, rfl, m1, m2, by rw [rr1.length, rr2.length]; exact h'.1, fun p hp => ?_⟩
    exact fin S (.lst ((xs ++ ys).map .st)) _ _ Sub.refl (x.dropL.dropL.allocF (rr1.append rr2) hp) h'.2
  · exact h'.elim
theorem v_cat (ha : VE X G F a ta sa) (hb : VE X G F b tb sb) : VE X G F (.BinOp a .Add b pos) (tOp rCat ta tb) (sOp2 gCat sa sb) := ⟨pe_op op_cat ha.pe hb.pe, lk_op2 op2_cat ha.lk hb.lk⟩
def repD (n : Nat) (ds : List D) : List D := (List.replicate n ds).flatten
theorem RepL.rep {S : Hp} {vs : List V} {ds : List D} (r : RepL K S vs ds) : ∀ n : Nat, RepL K S (List.replicate n vs).flatten (repD n ds)
  | 0 => .nil
  | n + 1 => by
    show RepL K S (List.replicate (n + 1) vs).flatten (List.replicate (n + 1) ds).flatten
    rw [List.replicate_succ, List.flatten_cons, List.replicate_succ, List.flatten_cons]
    exact r.append (RepL.rep r n)
def Rv.asI (r : Rv) (Q : Int → Prop) : Prop := match r with
  | .t (.st (.int k)) => Q k
  | _ => False
theorem Rv.asI_inv {r : Rv} {Q : Int → Prop} (h : r.asI Q) : ∃ k, r = .t (.st (.int k)) ∧ Q k := by
  cases r with
  | bor i => exact h.elim
  | t o => cases o with
    | lst _ => exact h.elim
    | ins _ _ => exact h.elim
    | st d => cases d <;> first | exact h.elim | exact ⟨_, rfl, h⟩
def gRep (r1 r2 : Rv) (e : En) (Q : Rv → Prop) : Prop := match ls e r1 with
  | some xs => r2.asI fun k => (-(2 ^ 63) ≤ k ∧ k < 2 ^ 63 ∧ xs.length * k.toNat ≤ sizeLine) ∧ Q (.t (.lst ((repD k.toNat xs).map .st)))
  | none => False
theorem op2_rep : Op2F K rRep gRep := by
  intro G S Γ env σ H Q r1 r2 v1 v2 P k x b1 b2 h fin
  unfold gRep at h
  split at h
  · rename_i xs e1
    obtain ⟨k2, e2, h'⟩ := Rv.asI_inv h
    subst e2
    obtain ⟨p1, vs1, q1, m1, rr1⟩ := ls_rep k (x.dropL) b1 e1
    have z := VSt.rep x
    cases z
    subst q1
    refine ⟨p1, _, vs1, rfl, rfl, m1, h'.1.1, h'.1.2.1, by rw [rr1.length]; exact h'.1.2.2, fun p hp => ?_⟩
    exact fin S _ _ _ Sub.refl (x.dropL.dropL.allocF (rr1.rep _) hp) h'.2
  · exact h.elim
theorem v_rep (ha : VE X G F a ta sa) (hb : VE X G F b tb sb) : VE X G F (.BinOp a .Mult b pos) (tOp rRep ta tb) (sOp2 gRep sa sb) := ⟨pe_op op_rep ha.pe hb.pe, lk_op2 op2_rep ha.lk hb.lk⟩
def gIx (r1 r2 : Rv) (e : En) (Q : Rv → Prop) : Prop := match itm e r1 with
  | some (_, ds) => r2.asI fun i => match atI ds i with
    | some d => Q (.t (.st d))
    | none => False
  | none => False
theorem atI_rep {S : Hp} {vs : List V} {ds : List D} {i : Int} {d : D} (r : RepL K S vs ds) (h : atI ds i = some d) : ∃ v, atI vs i = some v ∧ Rep K S v d := by
  unfold atI at h ⊢
  rw [r.length]
  cases e : ixN ds.length i with
  | none => rw [e] at h; cases h
  | some j =>
    rw [e] at h
    exact r.get h
theorem op2_ix : Op2F K (rIx K) gIx := by
  intro G S Γ env σ H Q r1 r2 v1 v2 P k x b1 b2 h fin
  unfold gIx at h
  split at h
  · rename_i b ds e1
    obtain ⟨i, e2, h'⟩ := Rv.asI_inv h
    subst e2
    obtain ⟨p1, vs1, q1, m1, m2, rr1⟩ := itm_rep k (x.dropL) b1 e1
    have z := VSt.rep x
    cases z
    subst q1
    have h2 : (match atI ds i with
      | some d => Q (.t (.st d))
      | none => False) := h'
    split at h2
    · rename_i d hd
      obtain ⟨w, hw, rw'⟩ := atI_rep rr1 hd
      have f := fin S (.st d) w H Sub.refl (x.dropL.dropL.addSt rw') h2
      cases b with
      | false => exact .inl ⟨p1, vs1, i, w, rfl, rfl, m1 rfl, hw, f⟩
      | true => exact .inr (.inl ⟨p1, vs1, i, w, rfl, rfl, m2 rfl, hw, f⟩)
    · exact h2.elim
  · exact h.elim
theorem v_ix (ha : VE X G F a ta sa) (hb : VE X G F b tb sb) (hs : PlainIx b := by exact fun _ _ => rfl) : VE X G F (.Subscript a b pos) (tOp (rIx X.K) ta tb) (sOp2 gIx sa sb) := ⟨pe_ix ix_seq ha.pe hb.pe hs, lk_op2 op2_ix ha.lk hb.lk⟩
def sFld (C : Addr) (f : Str) (s : TV) : TV := fun env Q => s env fun r e => match r with
  | .t (.st (.ins C' gs)) => C' = C ∧ (match gs.lookup f with
    | some d => Q (.t (.st d)) e
    | none => False)
  | _ => False
theorem v_fld {C : Addr} {f : Str} (hc : L2.Cls X.K C) (hn : NoAttr X.K C f) (he : VE X G F e te sa) (hb : attributeBase e f X.env (eval e X.env) = eval e X.env := by rfl) : VE X G F (.Attribute e f pos) (tFld X.K te f) (sFld C f sa) :=
  ⟨pe_fld he.pe hb, fun S Γ env σ H Q P fx k x hh fin => he.lk S Γ env σ H _ _ fx k x hh fun S1 r e1 v H1 s1 k1 x1 b1 q1 => by
    cases r with
    | bor i => exact (q1 : False).elim
    | t o => cases o with
      | lst _ => exact (q1 : False).elim
      | ins _ _ => exact (q1 : False).elim
      | st d =>
        cases d <;> first | exact (q1 : False).elim | skip
        rename_i C' gs
        obtain ⟨ec, q2⟩ := (show C' = C ∧ (match gs.lookup f with
          | some d => Q (.t (.st d)) e1
          | none => False) from q1)
        subst ec
        have z := VSt.rep x1
        cases z with
        | @ins a C dx fs gs hi hr =>
          split at q2
          · rename_i d hd
            obtain ⟨w, hw, rw'⟩ := hr.lookup hd
            exact ⟨a, _, _, _, w, rfl, x1.sub _ _ hi, hc, hn, hw, fin S1 (.t (.st d)) e1 w H1 s1 k1 (x1.drop.addSt rw') trivial q2⟩
          · exact q2.elim⟩
end
end VL
-- V6
set_option maxHeartbeats 1000000
namespace VL
open PySem PySem.Spec PyProof.Rows L2
abbrev XQ := Addr → List (Str × D) → En → Prop
structure De where
  nx : En → Prop
  rt : OD → En → Prop
  bk : En → Prop := fun _ => False
  ct : En → Prop := fun _ => False
abbrev TSV := De → En → Prop
structure Con (K : Fr) (G : Gh) (F : Fx) (S : Hp) (n : Nat) (D : De) (E : Ends) : Prop where
  nx : ∀ S' env σ H, Sub S S' → σ.length = n → Fix F σ → EnOk σ env → VSt K G S' (cl σ env) H → D.nx env → E.nx σ H
  bk : ∀ S' env σ H, Sub S S' → σ.length = n → Fix F σ → EnOk σ env → VSt K G S' (cl σ env) H → D.bk env → E.bk σ H
  ct : ∀ S' env σ H, Sub S S' → σ.length = n → Fix F σ → EnOk σ env → VSt K G S' (cl σ env) H → D.ct env → E.ct σ H
  rt : ∀ S' o env σ v H, Sub S S' → σ.length = n → Fix F σ → EnOk σ env → VSt K G S' ((v, o) :: cl σ env) H → D.rt o env → E.rt v H
theorem Con.mono {K : Fr} {G : Gh} {F : Fx} {S S1 : Hp} {n : Nat} {D : De} {E : Ends} (c : Con K G F S n D E) (s : Sub S S1) : Con K G F S1 n D E :=
  ⟨fun S' env σ H s' => c.nx S' env σ H (s.trans s'), fun S' env σ H s' => c.bk S' env σ H (s.trans s'), fun S' env σ H s' => c.ct S' env σ H (s.trans s'), fun S' o env σ v H s' => c.rt S' o env σ v H (s.trans s')⟩
def LkS (K : Fr) (G : Gh) (F : Fx) (ts : TS) (t : TSV) : Prop := ∀ (S : Hp) (env : En) (σ : L2.St) (H : Hp) (D : De) (E : Ends), Fix F σ → EnOk σ env → VSt K G S (cl σ env) H → t D env → Con K G F S σ.length D E → ts E σ H
structure VS (X : Cx) (G : Gh) (F : Fx) (st : Stmt) (ts : TS) (t : TSV) : Prop where
  ps : PS X st ts
  lk : LkS X.K G F ts t
structure VB (X : Cx) (G : Gh) (F : Fx) (st : List Stmt) (ts : TS) (t : TSV) : Prop where
  ps : PSs X st ts
  lk : LkS X.K G F ts t
structure Wx (X : Cx) (G : Gh) (F : Fx) (W : WX) (E : XQ) : Prop where
  tk : L2N.Takes X W
  po : PassesOwn (model X.prog X.w) X.A X.env X.xe
  calm : X.calm = true
  ex : ∀ (S : Hp) (C : Addr) (fs : List (Str × D)) (gs : List (Str × V)) (env : En) (σ : L2.St) (H : Hp) (d : Addr), Fix F σ → EnOk σ env → VSt X.K G S (cl σ env) H → S d = some (.xd gs) → RepF X.K S gs fs → E C fs env → W (.ref C) (some d) σ H
section
variable {X : Cx} {G : Gh} {F : Fx} {K : Fr} {st : Stmt} {rest body : List Stmt} {a b c e : Expr} {es : List Expr} {ta tb tc te : TE} {tA : TA} {tt tu : TT} {sa sb sc : TV} {ss su : TB} {sL : TVL} {ts tr : TS} {t u : TSV} {pos : Pos}
theorem cl_nil {Γ : Cl} : ([] : Cl) ++ Γ = Γ := rfl
def sSeq (t u : TSV) : TSV := fun D env => t { D with nx := u D } env
def sNext : TSV := fun D env => D.nx env
theorem b_nil : VB X G F [] tNext sNext := ⟨pss_nil, fun S env σ H D E fx k x h c => c.nx S env σ H Sub.refl rfl fx k x h⟩
theorem lk_seq (h1 : LkS K G F ts t) (h2 : LkS K G F tr u) : LkS K G F (tSeq ts tr) (sSeq t u) := fun S env σ H D E fx k x h c =>
  h1 S env σ H _ _ fx k x h ⟨fun S' env' σ' H' s l fx' k' x' q => h2 S' env' σ' H' D E fx' k' x' q (by rw [l]; exact c.mono s), c.bk, c.ct, c.rt⟩
theorem b_cons (h1 : VS X G F st ts t) (h2 : VB X G F rest tr u) : VB X G F (st :: rest) (tSeq ts tr) (sSeq t u) := ⟨pss_cons h1.ps h2.ps, lk_seq h1.lk h2.lk⟩
theorem b_one (h1 : VS X G F st ts t) : VB X G F [st] ts t := ⟨pss_one h1.ps, h1.lk⟩
theorem s_pass : VS X G F (.Pass pos) tNext sNext := ⟨ps_pass, fun S env σ H D E fx k x h c => c.nx S env σ H Sub.refl rfl fx k x h⟩
def sBreak : TSV := fun D env => D.bk env
def sCont : TSV := fun D env => D.ct env
theorem s_break : VS X G F (.Break pos) tBreak sBreak := ⟨ps_break, fun S env σ H D E fx k x h c => c.bk S env σ H Sub.refl rfl fx k x h⟩
theorem s_continue : VS X G F (.Continue pos) tCont sCont := ⟨ps_continue, fun S env σ H D E fx k x h c => c.ct S env σ H Sub.refl rfl fx k x h⟩
def sNever : TSV := fun _ _ => False
theorem s_never : VS X G F st tNever sNever := ⟨ps_never, fun S env σ H D E fx k x h c => h.elim⟩
theorem b_never : VB X G F rest tNever sNever := ⟨pss_never, fun S env σ H D E fx k x h c => h.elim⟩
theorem VSt.store {S H : Hp} {σ : L2.St} {env : En} {i : Nat} {v : V} {o : OD} (k : EnOk σ env) (hi : i < σ.length) (x : VSt K G S ((v, o) :: cl σ env) H) :
    EnOk (σ.set i (some v)) (env.set i (some o)) ∧ VSt K G S (cl (σ.set i (some v)) (env.set i (some o))) H := by
  obtain ⟨p, k2⟩ := k.put (o := o) (v := v) hi
  obtain ⟨⟨c, q⟩, _⟩ := k.clr i
  refine ⟨k2, VSt.perm ?_ p.symm⟩
  have y := x.perm ((q.cons (v, o)).trans (List.perm_middle (a := (v, o)) (l₁ := c)).symm)
  exact y.dropL
def Rv.asT (r : Rv) (Q : OD → Prop) : Prop := match r with
  | .t o => Q o
  | .bor _ => False
theorem Rv.asT_inv {r : Rv} {Q : OD → Prop} (h : r.asT Q) : ∃ o, r = .t o ∧ Q o := by
  cases r with
  | bor i => exact h.elim
  | t o => exact ⟨o, rfl, h⟩
def sSet (i : Nat) (s : TV) : TSV := fun D env => i < env.length ∧ s env fun r e => r.asT fun o => D.nx (e.set i (some o))
theorem lk_set {i : Nat} (hio : i ∉ F.ios) (h : Lk K G F te sa) : LkS K G F (tAsg te (gName i)) (sSet i sa) := by
  intro S env σ H D E fx k x hh c
  refine h S [] env σ H _ _ fx k x hh.2 fun S1 r e1 v H1 s1 k1 x1 b1 q1 => ?_
  obtain ⟨o, e, q⟩ := Rv.asT_inv q1
  subst e
  have hi : i < σ.length := by rw [k.len]; exact hh.1
  obtain ⟨k2, x2⟩ := VSt.store (i := i) k1 hi x1
  exact c.nx S1 _ _ _ s1 (List.length_set ..) (fx.set hio) k2 x2 q
theorem s_set {i : Nat} {x : Str} {pos' : Pos} (hio : i ∉ F.ios) (hN : X.N.Nodup) (hi : X.N[i]? = some x) (hx : Loc X.env.scope x) (he : VE X G F e te sa) (hs : swapsWith e (some (.Name x pos')) pos.line X.env = pure false := by rfl) (hf : X.fn x = true ∨ X.env.scope.names.lookup x = some .local := by first | exact .inl rfl | exact .inr rfl | assumption) :
    VS X G F (.Assign [.Name x pos'] e pos) (tAsg te (gName i)) (sSet i sa) := ⟨ps_set hN hi hx he.pe hs hf, lk_set hio he.lk⟩
def sDrop (s : TV) : TSV := fun D env => s env fun _ e => D.nx e
theorem s_expr (he : VE X G F e te sa) (hs : swapsWith e none pos.line X.env = pure false := by rfl) : VS X G F (.Expr e pos) (tDrop te) (sDrop sa) :=
  ⟨ps_expr he.pe hs, fun S env σ H D E fx k x hh c => he.lk S [] env σ H _ _ fx k x hh fun S1 r e1 v H1 s1 k1 x1 b1 q1 => c.nx S1 e1 σ H1 s1 rfl fx k1 x1.dropL q1⟩
def retOf (r : Rv) (e : En) (Q : OD → En → Prop) : Prop := match r with
  | .t o => Q o e
  | .bor i => match e[i]? with
    | some (some o) => Q o (e.set i none)
    | _ => False
def sRet (s : TV) : TSV := fun D env => s env fun r e => retOf r e D.rt
theorem s_ret (he : VE X G F e te sa) : VS X G F (.Return (some e) pos) (tRet te) (sRet sa) :=
  ⟨ps_ret he.pe, fun S env σ H D E fx k x hh c => he.lk S [] env σ H _ _ fx k x hh fun S1 r e1 v H1 s1 k1 x1 b1 q1 => by
    cases r with
    | t o => exact c.rt S1 o e1 σ v H1 s1 rfl fx k1 x1 q1
    | bor i =>
      have q : (match e1[i]? with
        | some (some o) => D.rt o (e1.set i none)
        | _ => False) := q1
      split at q
      · rename_i o ho
        obtain ⟨w, h1, h2, h3⟩ := k1.take ho
        have hb : σ[i]? = some (some v) := b1
        rw [h1] at hb; cases hb
        exact c.rt S1 o _ σ v H1 s1 rfl fx h3 (VSt.perm (show VSt X.K G S1 (cl σ e1) H1 from x1) h2) q
      · exact q.elim⟩
def sRetN : TSV := fun D env => D.rt (.st .non) env
theorem s_retN : VS X G F (.Return none pos) tRetN sRetN := ⟨ps_retN, fun S env σ H D E fx k x hh c => c.rt S (.st .non) env σ .non H Sub.refl rfl fx k (x.addSt .non) hh⟩
def sIfS (s : TB) (t u : TSV) : TSV := fun D env => s env fun b e => match b with
  | true => t D e
  | false => u D e
theorem s_if {p q : List Stmt} (hc : VT X G F c tt ss) (ha : VB X G F p ts t) (hb : VB X G F q tr u) : VS X G F (.If c p q pos) (tIfS tt ts tr) (sIfS ss t u) :=
  ⟨ps_if hc.pt ha.ps hb.ps, fun S env σ H D E fx k x hh c => hc.lk S [] env σ H _ _ fx k x hh fun S1 kb e1 H1 s1 k1 x1 q1 => by
    cases kb with
    | true => exact iteT (ha.lk S1 e1 σ H1 D E fx k1 x1 q1 (c.mono s1))
    | false => exact iteF (hb.lk S1 e1 σ H1 D E fx k1 x1 q1 (c.mono s1))⟩
def frzAt (i : Nat) (e : En) : En := match e[i]? with
  | some (some o) => e.set i (some (.st (frz o)))
  | _ => e
theorem VSt.frzAt {S H : Hp} {σ : L2.St} {env : En} (i : Nat) (k : EnOk σ env) {Γ : Cl} (x : VSt K G S (Γ ++ cl σ env) H) : ∃ S', Sub S S' ∧ EnOk σ (frzAt i env) ∧ VSt K G S' (Γ ++ cl σ (VL.frzAt i env)) H := by
  unfold VL.frzAt
  split
  · rename_i o ho
    obtain ⟨w, h1, h2, h3⟩ := k.take ho
    obtain ⟨S', s, y⟩ := (x.perm ((h2.append_left Γ).trans List.perm_middle)).freeze
    have bk := h3.back (o := .st (frz o)) h1
    rw [List.set_set] at bk
    rw [List.set_set] at bk
    exact ⟨S', s, bk.2, y.perm (((bk.1.symm.append_left Γ).symm.trans List.perm_middle).symm)⟩
  · exact ⟨S, Sub.refl, k, x⟩
def sFrz (i : Nat) (t : TSV) : TSV := fun D env => t D (frzAt i env)
theorem b_frz (i : Nat) (h : VB X G F rest ts t) : VB X G F rest ts (sFrz i t) := ⟨h.ps, fun S env σ H D E fx k x hh c => by
  obtain ⟨S', s, k', y⟩ := VSt.frzAt (Γ := []) i k x
  exact h.lk S' _ σ H D E fx k' y hh (c.mono s)⟩
def sFrzE (i : Nat) (t : TV) : TV := fun env Q => t (frzAt i env) Q
theorem v_frz (i : Nat) (h : VE X G F e te sa) : VE X G F e te (sFrzE i sa) := ⟨h.pe, fun S Γ env σ H Q P fx k x hh fin => by
  obtain ⟨S', s, k', y⟩ := VSt.frzAt i k x
  exact h.lk S' Γ _ σ H Q P fx k' y hh fun S2 r e2 v H2 s2 => fin S2 r e2 v H2 (s.trans s2)⟩
theorem VSt.open_ {S H : Hp} {σ : L2.St} {env : En} {i : Nat} {Γ : Cl} {os : List OD} (k : EnOk σ env) (x : VSt K G S (Γ ++ cl σ env) H) (e : env[i]? = some (some (.lst os))) :
    ∃ p vs, σ[i]? = some (some (.ref p)) ∧ H p = some (.lst vs) ∧ vs.length = os.length ∧ VSt K G S ((.ref p, .lst os) :: (Γ ++ cl σ (env.set i none))) H ∧
      ∀ (S' : Hp) (H' : Hp) (o' : OD) (Γ' : Cl), VSt K G S' ((.ref p, o') :: (Γ' ++ cl σ (env.set i none))) H' → EnOk σ (env.set i (some o')) ∧ VSt K G S' (Γ' ++ cl σ (env.set i (some o'))) H' := by
  obtain ⟨w, h1, h2, h3⟩ := k.take e
  have y := x.perm ((h2.append_left Γ).trans List.perm_middle)
  obtain ⟨p, vs, ew, hp, hl⟩ := y.lstAt
  subst ew
  refine ⟨p, vs, h1, hp, hl, y, fun S' H' o' Γ' z => ?_⟩
  have bk := h3.back (o := o') h1
  rw [List.set_set] at bk
  rw [List.set_set] at bk
  exact ⟨bk.2, z.perm (((bk.1.symm.append_left Γ').symm.trans List.perm_middle).symm)⟩
def isOn (e : En) (i : Nat) (Q : Prop) : Prop := match e[i]? with
  | some (some _) => Q
  | _ => False
theorem isOn_inv {σ : L2.St} {e : En} {i : Nat} {Q : Prop} (k : EnOk σ e) (h : isOn e i Q) : (∃ v, σ[i]? = some (some v)) ∧ Q := by
  unfold isOn at h
  split at h
  · rename_i o ho
    obtain ⟨w, h1, _⟩ := k.take ho
    exact ⟨⟨w, h1⟩, h⟩
  · exact h.elim
def sSetIx (i : Nat) (sv si : TV) : TSV := fun D env => sv env fun r e1 => r.asT fun o => isOn e1 i (si e1 fun r2 e2 => r2.asI fun k => match e2[i]? with
  | some (some (.lst os)) => (match ixN os.length k with
    | some j => D.nx (e2.set i (some (.lst (os.set j (.st (frz o))))))
    | none => False)
  | _ => False)
theorem lk_setIx {i : Nat} {ti : TE} {si : TV} (he : Lk K G F te sa) (hix : Lk K G F ti si) : LkS K G F (tAsg te (L2.gSub (tVar i) ti rSetL)) (sSetIx i sa si) := by
  intro S env σ H D E fx k x hh c
  refine he S [] env σ H _ _ fx k x hh fun S1 r e1 v H1 s1 k1 x1 b1 q1 => ?_
  obtain ⟨od, e, q⟩ := Rv.asT_inv q1
  subst e
  obtain ⟨⟨w, hw⟩, q⟩ := isOn_inv k1 q
  obtain ⟨S2, s2, x2⟩ := VSt.freeze x1
  refine ⟨w, hw, ?_⟩
  refine hix S2 [(v, .st (frz od))] e1 σ H1 _ _ fx k1 x2 q fun S3 r2 e2 v2 H3 s3 k3 x3 b3 q3 => ?_
  obtain ⟨kk, e, q⟩ := Rv.asI_inv q3
  subst e
  split at q
  · rename_i os ho
    split at q
    · rename_i j hj
      have z := VSt.rep x3
      cases z
      obtain ⟨p, vs, hp1, hp2, hp3, y, bk⟩ := VSt.open_ k3 (VSt.drop x3) ho
      rw [hw] at hp1; cases hp1
      have rv : Rep K S3 v (frz od) := VSt.rep (y.drop)
      refine ⟨p, vs, kk, j, rfl, rfl, hp2, by rw [hp3]; exact hj, ?_⟩
      obtain ⟨k4, x4⟩ := bk S3 _ _ [] ((y.perm (List.Perm.swap _ _ _)).drop.setSt hp2 rv j)
      exact c.nx S3 _ σ _ (s1.trans (s2.trans s3)) rfl fx k4 x4 q
    · exact q.elim
  · exact q.elim
theorem s_setIx {i : Nat} {o ix : Expr} {ti : TE} {si : TV} {p1 : Pos} (ho : VE X G F o (tVar i) (sVar i)) (hix : VE X G F ix ti si) (he : VE X G F e te sa)
    (hg : PE X o (tVar i) → PE X ix ti → PG X (.Subscript o ix p1) (L2.gSub (tVar i) ti rSetL) := by exact fun a b => pg_sub a b set_list)
    (hs : swapsWithSole [.Subscript o ix p1] e pos.line X.env = pure false := by rfl) (hw : swappedStores [.Subscript o ix p1] e X.env = pure none := by rfl) : VS X G F (.Assign [.Subscript o ix p1] e pos) (tAsg te (L2.gSub (tVar i) ti rSetL)) (sSetIx i sa si) :=
  ⟨ps_asg he.pe (hg ho.pe hix.pe) hs hw, lk_setIx he.lk hix.lk⟩
def rGetL (K : Fr) : V → V → Hp → VK → Prop := fun o iv H Q => ∃ p xs i v, o = .ref p ∧ iv = .int i ∧ SqL K H p xs ∧ 0 ≤ i ∧ xs[i.toNat]? = some v ∧ Q v H
theorem get_list : PGet X (rGetL X.K) := fun pins s σ H o i ov iv Q I ro ri h => by
  obtain ⟨p, xs, j, v, rfl, rfl, hq, h0, he, q⟩ := h
  cases ro
  obtain ⟨t, rfl⟩ := ri
  obtain ⟨its, r, pl, hz⟩ := I.list hq
  obtain ⟨w, ew, rw'⟩ := r.get he
  have hn := line63
  have hlt : j.toNat < xs.length := (List.getElem?_eq_some_iff.mp he).1
  exact wpAny_getItem_list pl.isList h0 (by omega) (by simpa using ew) ⟨v, H, I, rw', q⟩
theorem ls_ints {p : Addr} {H : Hp} {xs ys : List V} (h : H p = some (.lst xs)) (h2 : H p = some (.lst ys)) : xs = ys := by
  rw [h] at h2; cases h2; rfl
def isLst (e : En) (i : Nat) (Q : List OD → Prop) : Prop := match e[i]? with
  | some (some (.lst os)) => Q os
  | _ => False
theorem isLst_inv {e : En} {i : Nat} {Q : List OD → Prop} (h : isLst e i Q) : ∃ os, e[i]? = some (some (.lst os)) ∧ Q os := by
  unfold isLst at h
  split at h
  · rename_i os ho
    exact ⟨os, ho, h⟩
  · exact h.elim
def asIntO (o : Option OD) (Q : Int → Prop) : Prop := match o with
  | some (.st (.int a)) => Q a
  | _ => False
theorem asIntO_inv {o : Option OD} {Q : Int → Prop} (h : asIntO o Q) : ∃ a, o = some (.st (.int a)) ∧ Q a := by
  unfold asIntO at h
  split at h
  · exact ⟨_, rfl, h⟩
  · exact h.elim
def sAugIx (f : Int → Int → Int) (i : Nat) (si se : TV) : TSV := fun D env => isOn env i (si env fun r2 e2 => r2.asI fun k => isLst e2 i fun os => 0 ≤ k ∧ asIntO os[k.toNat]? fun a => se e2 fun r3 e3 => r3.asI fun b => isLst e3 i fun os3 =>
  k.toNat < os3.length ∧ D.nx (e3.set i (some (.lst (os3.set k.toNat (.st (.int (f a b))))))))
theorem lk_augIx {i : Nat} {f : Int → Int → Int} {ti : TE} {si : TV} (hix : Lk K G F ti si) (he : Lk K G F te sa) : LkS K G F (tAugS (tVar i) ti te (rGetL K) (ipI f) rSetL) (sAugIx f i si sa) := by
  intro S env σ H D E fx k x hh c
  obtain ⟨⟨w, hw⟩, q⟩ := isOn_inv k hh
  refine ⟨w, hw, ?_⟩
  refine hix S [] env σ H _ _ fx k x q fun S2 r2 e2 v2 H2 s2 k2 x2 b2 q2 => ?_
  obtain ⟨kk, e, q⟩ := Rv.asI_inv q2
  subst e
  obtain ⟨os, ho, hk0, q⟩ := isLst_inv q
  obtain ⟨a, ha, q⟩ := asIntO_inv q
  have z := VSt.rep x2
  cases z
  obtain ⟨p, vs, hp1, hp2, hp3, y, bk⟩ := VSt.open_ (Γ := []) k2 (VSt.drop x2) ho
  rw [hw] at hp1; cases hp1
  obtain ⟨fp, hc, _⟩ := y.cls
  cases hc with
  | cons hc _ => cases hc with
    | @lst _ vs' _ _ hv' ho' =>
      have ev := ls_ints hv' hp2
      subst ev
      obtain ⟨w1, _, _, _, hw1, _, hown, _⟩ := ho'.at ha
      cases hown with
      | st hrep =>
        cases hrep
        refine ⟨p, vs', kk, _, rfl, rfl, SqL.of hp2, hk0, hw1, ?_⟩
        refine he S2 [] e2 σ H2 _ _ fx k2 (VSt.drop x2) q fun S3 r3 e3 v3 H3 s3 k3 x3 b3 q3 => ?_
        obtain ⟨b, e, q⟩ := Rv.asI_inv q3
        subst e
        obtain ⟨os3, ho3, hlt, q⟩ := isLst_inv q
        have z := VSt.rep x3
        cases z
        obtain ⟨p', vs3, hp1, hp2', hp3', y3, bk3⟩ := VSt.open_ (Γ := []) k3 (VSt.drop x3) ho3
        rw [hw] at hp1; cases hp1
        refine ⟨a, b, rfl, rfl, p, vs3, kk, kk.toNat, rfl, rfl, hp2', ?_, ?_⟩
        · unfold ixN
          rw [if_pos hk0, if_pos (by rw [hp3']; omega)]
        · obtain ⟨k4, x4⟩ := bk3 S3 _ _ [] (y3.setSt hp2' (.int (i := f a b)) kk.toNat)
          exact c.nx S3 _ σ _ (s2.trans s3) rfl fx k4 x4 q
theorem s_augIx {i : Nat} {o ix : Expr} {ti : TE} {si : TV} {p1 : Pos} {op : Operator} {f : Int → Int → Int} (hp : PIp X op (ipI f)) (ho : VE X G F o (tVar i) (sVar i)) (hix : VE X G F ix ti si) (he : VE X G F e te sa)
    (ha : ∀ ov iv new, augStore ix ov iv new = (do holding [new, ov, iv] (setItem ov iv new); release [new, ov, iv] []; pure .next) := by intros; rfl) : VS X G F (.AugAssign (.Subscript o ix p1) op e pos) (tAugS (tVar i) ti te (rGetL X.K) (ipI f) rSetL) (sAugIx f i si sa) :=
  ⟨ps_augS ho.pe hix.pe get_list he.pe hp set_list ha, lk_augIx hix.lk he.lk⟩
def sAug (f : Int → Int → Int) (i : Nat) (s : TV) : TSV := fun D env => i < env.length ∧ asIntO (env[i]?.join) fun a => s env fun r e => r.asI fun b => D.nx (e.set i (some (.st (.int (f a b)))))
theorem lk_aug {i : Nat} {f : Int → Int → Int} (hio : i ∉ F.ios) (he : Lk K G F te sa) : LkS K G F (tAug i te (ipI f)) (sAug f i sa) := by
  intro S env σ H D E fx k x hh c
  obtain ⟨hi, q⟩ := hh
  obtain ⟨a, ha, q⟩ := asIntO_inv q
  have ha' : env[i]? = some (some (.st (.int a))) := by
    cases e : env[i]? with
    | none => rw [e] at ha; cases ha
    | some o => rw [e] at ha; exact congrArg some ha
  obtain ⟨w, h1, h2, _⟩ := k.take ha'
  have r1 := (x.perm h2).rep
  cases r1
  refine ⟨_, h1, ?_⟩
  refine he S [] env σ H _ _ fx k x q fun S1 r e1 v H1 s1 k1 x1 b1 q1 => ?_
  obtain ⟨b, e, q⟩ := Rv.asI_inv q1
  subst e
  have z := VSt.rep x1
  cases z
  refine ⟨a, b, rfl, rfl, ?_⟩
  have hi' : i < σ.length := by rw [k.len]; exact hi
  obtain ⟨k2, x2⟩ := VSt.store (i := i) (v := .int (f a b)) (o := .st (.int (f a b))) k1 hi' (VSt.addSt (VSt.drop x1) .int)
  exact c.nx S1 _ _ _ s1 (List.length_set ..) (fx.set hio) k2 x2 q
theorem s_aug {i : Nat} {x : Str} {op : Operator} {f : Int → Int → Int} {pos' : Pos} (hio : i ∉ F.ios) (hp : PIp X op (ipI f)) (hN : X.N.Nodup) (hi : X.N[i]? = some x) (hx : Loc X.env.scope x) (he : VE X G F e te sa) (hf : X.fn x = true ∨ X.env.scope.names.lookup x = some .local := by first | exact .inl rfl | exact .inr rfl | assumption) :
    VS X G F (.AugAssign (.Name x pos') op e pos) (tAug i te (ipI f)) (sAug f i sa) := ⟨ps_aug hN hi hx he.pe hp hf, lk_aug hio he.lk⟩
def sApp (i : Nat) (s : TV) : TSV := fun D env => isLst env i fun _ => s env fun r e => r.asT fun o => isLst e i fun os => os.length < sizeLine ∧ D.nx (e.set i (some (.lst (os ++ [.st (frz o)]))))
def sAppO (i : Nat) (s : TV) : TSV := fun D env => isLst env i fun _ => s env fun r e => r.asT fun o => isLst e i fun os => os.length < sizeLine ∧ D.nx (e.set i (some (.lst (os ++ [o]))))
abbrev tApp (K : Fr) (i : Nat) (te : TE) : TS := tDrop (tBM K "list" rAppend (tVar i) (tCons te tNil))
theorem lk_appO {i : Nat} (he : Lk K G F te sa) : LkS K G F (tApp K i te) (sAppO i sa) := by
  intro S env σ H D E fx k x hh c
  obtain ⟨os0, ho0, q⟩ := isLst_inv hh
  obtain ⟨p0, vs0, hw, hp0, _, _, _⟩ := VSt.open_ (Γ := []) k x ho0
  refine ⟨_, hw, .inl ⟨rfl, _, SqL.of hp0⟩, ?_⟩
  refine he S [] env σ H _ _ fx k x q fun S1 r e1 v H1 s1 k1 x1 b1 q1 => ?_
  obtain ⟨o, e, q⟩ := Rv.asT_inv q1
  subst e
  obtain ⟨os, ho, hlen, q⟩ := isLst_inv q
  obtain ⟨p, vs, hp1, hp2, hp3, y, bk⟩ := VSt.open_ (Γ := [(v, o)]) k1 x1 ho
  rw [hw] at hp1; cases hp1
  refine ⟨p0, vs, v, rfl, rfl, hp2, by rw [hp3]; exact hlen, ?_⟩
  obtain ⟨k4, x4⟩ := bk S1 _ _ [] ((y.perm (List.Perm.swap _ _ _)).appendC hp2)
  exact c.nx S1 _ σ _ s1 rfl fx k4 x4 q
theorem lk_app {i : Nat} (he : Lk K G F te sa) : LkS K G F (tApp K i te) (sApp i sa) := by
  intro S env σ H D E fx k x hh c
  obtain ⟨os0, ho0, q⟩ := isLst_inv hh
  obtain ⟨p0, vs0, hw, hp0, _, _, _⟩ := VSt.open_ (Γ := []) k x ho0
  refine ⟨_, hw, .inl ⟨rfl, _, SqL.of hp0⟩, ?_⟩
  refine he S [] env σ H _ _ fx k x q fun S1 r e1 v H1 s1 k1 x1 b1 q1 => ?_
  obtain ⟨o, e, q⟩ := Rv.asT_inv q1
  subst e
  obtain ⟨os, ho, hlen, q⟩ := isLst_inv q
  obtain ⟨S2, s2, x2⟩ := VSt.freeze x1
  obtain ⟨p, vs, hp1, hp2, hp3, y, bk⟩ := VSt.open_ (Γ := [(v, .st (frz o))]) k1 x2 ho
  rw [hw] at hp1; cases hp1
  refine ⟨p0, vs, v, rfl, rfl, hp2, by rw [hp3]; exact hlen, ?_⟩
  obtain ⟨k4, x4⟩ := bk S2 _ _ [] ((y.perm (List.Perm.swap _ _ _)).appendC hp2)
  exact c.nx S2 _ σ _ (s1.trans s2) rfl fx k4 x4 q
theorem s_app {i : Nat} {o : Expr} {apos cpos : Pos} (ho : VE X G F o (tVar i) (sVar i)) (he : VE X G F e te sa)
    (hp : PE X o (tVar i) → PA X [e] (tCons te tNil) → PE X (.Call (.Attribute o "append" apos) [e] [] cpos) (tBM X.K "list" rAppend (tVar i) (tCons te tNil)) := by exact fun a b => pe_bm PySem.F.plainAttrs_list PySem.F.slot_list_append PySem.F.type_list_append mt_append a b)
    (ha : PE X e te → PA X [e] (tCons te tNil) := by exact fun a => pa_cons a pa_nil) (hs : swapsWith (.Call (.Attribute o "append" apos) [e] [] cpos) none pos.line X.env = pure false := by rfl) :
    VS X G F (.Expr (.Call (.Attribute o "append" apos) [e] [] cpos) pos) (tApp X.K i te) (sApp i sa) := ⟨ps_expr (hp ho.pe (ha he.pe)) hs, lk_app he.lk⟩
theorem s_appO {i : Nat} {o : Expr} {apos cpos : Pos} (ho : VE X G F o (tVar i) (sVar i)) (he : VE X G F e te sa)
    (hp : PE X o (tVar i) → PA X [e] (tCons te tNil) → PE X (.Call (.Attribute o "append" apos) [e] [] cpos) (tBM X.K "list" rAppend (tVar i) (tCons te tNil)) := by exact fun a b => pe_bm PySem.F.plainAttrs_list PySem.F.slot_list_append PySem.F.type_list_append mt_append a b)
    (ha : PE X e te → PA X [e] (tCons te tNil) := by exact fun a => pa_cons a pa_nil) (hs : swapsWith (.Call (.Attribute o "append" apos) [e] [] cpos) none pos.line X.env = pure false := by rfl) :
    VS X G F (.Expr (.Call (.Attribute o "append" apos) [e] [] cpos) pos) (tApp X.K i te) (sAppO i sa) := ⟨ps_expr (hp ho.pe (ha he.pe)) hs, lk_appO he.lk⟩
end
end VL
-- V7
set_option maxHeartbeats 1000000
namespace VL
open PySem PySem.Spec PyProof.Rows L2
abbrev Ctr := List OD → (OD → List OD → Prop) → (Addr → List (Str × D) → List OD → Prop) → Prop
def VSp (K : Fr) (C : Ctr) : Sp := fun vs H Q E => ∃ (S : Hp) (os : List OD) (fp : List Addr) (Q1 : OD → List OD → Prop) (E1 : Addr → List (Str × D) → List OD → Prop),
  vs.length = os.length ∧ VSt K ⟨S, H, fp⟩ S (vs.zip os) H ∧ C os Q1 E1 ∧
  (∀ r os' S' v H', Q1 r os' → Sub S S' → VSt K ⟨S, H, fp⟩ S' ((v, r) :: vs.zip os') H' → Q v H') ∧
  (∀ c fs os' S' d gs H', E1 c fs os' → Sub S S' → VSt K ⟨S, H, fp⟩ S' (vs.zip os') H' → S' d = some (.xd gs) → RepF K S' gs fs → E (.ref c) (some d) H')
def takeL : List Rv → En → Option (List OD × En)
  | [], e => some ([], e)
  | .t o :: r, e => match takeL r e with
    | some (os, e') => some (o :: os, e')
    | none => none
  | .bor i :: r, e => match e[i]? with
    | some (some o) => (match takeL r (e.set i none) with
      | some (os, e') => some (o :: os, e')
      | none => none)
    | _ => none
def giveL : List Rv → List OD → En → Option En
  | [], _, e => some e
  | .t _ :: r, _ :: os, e => giveL r os e
  | .bor i :: r, o :: os, e => giveL r os (e.set i (some o))
  | _ :: _, [], _ => none
section
variable {K : Fr} {G : Gh} {S H : Hp} {σ : L2.St}
theorem take_cl : ∀ {rs : List Rv} {vs : List V} {Γ : Cl} {e e' : En} {os : List OD}, EnOk σ e → VSt K G S (rclL vs rs ++ (Γ ++ cl σ e)) H → bokL σ vs rs → takeL rs e = some (os, e') →
    EnOk σ e' ∧ VSt K G S (vs.zip os ++ (Γ ++ cl σ e')) H ∧ vs.length = os.length
  | [], [], Γ, e, e', os, k, x, b, h => by cases h; exact ⟨k, x, rfl⟩
  | [], _ :: _, _, _, _, _, _, _, b, _ => b.elim
  | _ :: _, [], _, _, _, _, _, _, b, _ => b.elim
  | .t o :: r, v :: vs, Γ, e, e', os, k, x, b, h => by
    unfold takeL at h
    split at h
    · rename_i os' e2 h'
      cases h
      have x1 : VSt K G S (rclL vs r ++ (((v, o) :: Γ) ++ cl σ e)) H := by
        refine x.perm ?_
        show ((v, o) :: (rclL vs r ++ (Γ ++ cl σ e))).Perm (rclL vs r ++ ((v, o) :: (Γ ++ cl σ e)))
        exact List.perm_middle.symm
      obtain ⟨k2, x2, l2⟩ := take_cl k x1 b.2 h'
      refine ⟨k2, x2.perm ?_, by simp [l2]⟩
      show (vs.zip os' ++ ((v, o) :: (Γ ++ cl σ e'))).Perm ((v, o) :: (vs.zip os' ++ (Γ ++ cl σ e')))
      exact List.perm_middle
    · cases h
  | .bor i :: r, v :: vs, Γ, e, e', os, k, x, b, h => by
    unfold takeL at h
    split at h
    · rename_i o ho
      split at h
      · rename_i os' e2 h'
        cases h
        obtain ⟨w, h1, h2, h3⟩ := k.take ho
        have hb : σ[i]? = some (some v) := b.1
        rw [h1] at hb; cases hb
        have x1 : VSt K G S (rclL vs r ++ (((v, o) :: Γ) ++ cl σ (e.set i none))) H := by
          refine x.perm ?_
          show (rclL vs r ++ (Γ ++ cl σ e)).Perm (rclL vs r ++ ((v, o) :: (Γ ++ cl σ (e.set i none))))
          exact ((h2.append_left Γ).trans List.perm_middle).append_left _
        obtain ⟨k2, x2, l2⟩ := take_cl h3 x1 b.2 h'
        refine ⟨k2, x2.perm ?_, by simp [l2]⟩
        show (vs.zip os' ++ ((v, o) :: (Γ ++ cl σ e'))).Perm ((v, o) :: (vs.zip os' ++ (Γ ++ cl σ e')))
        exact List.perm_middle
      · cases h
    · cases h
theorem give_cl : ∀ {rs : List Rv} {vs : List V} {Γ : Cl} {e e' : En} {os : List OD}, EnOk σ e → VSt K G S (vs.zip os ++ (Γ ++ cl σ e)) H → bokL σ vs rs → giveL rs os e = some e' →
    EnOk σ e' ∧ VSt K G S (Γ ++ cl σ e') H
  | [], [], Γ, e, e', os, k, x, b, h => by cases h; exact ⟨k, x⟩
  | [], _ :: _, _, _, _, _, _, _, b, _ => b.elim
  | _ :: _, [], _, _, _, _, _, _, b, _ => b.elim
  | .t _ :: r, v :: vs, Γ, e, e', o :: os, k, x, b, h => give_cl (rs := r) k x.drop b.2 h
  | .bor i :: r, v :: vs, Γ, e, e', o :: os, k, x, b, h => by
    obtain ⟨⟨c, q⟩, k0⟩ := k.clr i
    have bk := k.back (o := o) (show σ[i]? = some (some v) from b.1)
    refine give_cl (rs := r) bk.2 ?_ b.2 h
    have x0 : VSt K G S ((v, o) :: (vs.zip os ++ (Γ ++ cl σ e))) H := x
    have p1 : ((v, o) :: (vs.zip os ++ (Γ ++ cl σ e))).Perm (c ++ (vs.zip os ++ (Γ ++ ((v, o) :: cl σ (e.set i none))))) := by
      have a1 : (Γ ++ cl σ e).Perm (c ++ (Γ ++ cl σ (e.set i none))) := by
        refine (q.append_left Γ).trans ?_
        rw [← List.append_assoc, ← List.append_assoc]
        exact List.perm_append_comm.append_right _
      have a2 : ((v, o) :: (vs.zip os ++ (Γ ++ cl σ e))).Perm ((v, o) :: (vs.zip os ++ (c ++ (Γ ++ cl σ (e.set i none))))) := (a1.append_left _).cons _
      refine a2.trans ?_
      have a3 : (vs.zip os ++ (c ++ (Γ ++ cl σ (e.set i none)))).Perm (c ++ (vs.zip os ++ (Γ ++ cl σ (e.set i none)))) := by
        rw [← List.append_assoc (vs.zip os), ← List.append_assoc c]
        exact List.perm_append_comm.append_right _
      refine (a3.cons _).trans ?_
      have a4 : ((v, o) :: (c ++ (vs.zip os ++ (Γ ++ cl σ (e.set i none))))).Perm (c ++ ((v, o) :: (vs.zip os ++ (Γ ++ cl σ (e.set i none))))) := List.perm_middle.symm
      refine a4.trans (List.Perm.append_left c ?_)
      have a5 : ((v, o) :: (vs.zip os ++ (Γ ++ cl σ (e.set i none)))).Perm (vs.zip os ++ ((v, o) :: (Γ ++ cl σ (e.set i none)))) := List.perm_middle.symm
      exact a5.trans ((List.perm_middle.symm).append_left _)
    exact ((x0.perm p1).dropL).perm ((bk.1.symm.append_left Γ).append_left _)
end
section
variable {X : Cx} {G : Gh} {F : Fx} {K : Fr} {e : Expr} {es : List Expr} {tA : TA} {sL : TVL} {pos : Pos} {W : WX} {E : XQ} {C : Ctr}
def sCall (C : Ctr) (E : XQ) (s : TVL) : TV := fun env Q => s env fun rs e => match takeL rs e with
  | some (os, e') => C os (fun r os' => match giveL rs os' e' with
    | some e2 => Q (.t r) e2
    | none => False) (fun c fs os' => match giveL rs os' e' with
    | some e2 => E c fs e2
    | none => False)
  | none => False
theorem lk_call (wx : Wx X G F W E) (ha : LkA X.K G F tA sL) : Lk X.K G F (tCallS (VSp X.K C) (WE W) tA) (sCall C E sL) := by
  intro S Γ env σ H Q P fx k x h fin
  refine ha S Γ env σ H _ _ fx k x h fun S1 rs e1 vs H1 s1 k1 x1 b1 h1 => ?_
  split at h1
  · rename_i os e2 ht
    obtain ⟨k2, x2, l2⟩ := take_cl k1 x1 b1 ht
    obtain ⟨fp, y, join⟩ := x2.part
    refine ⟨S1, os, fp, _, _, l2, y, h1, fun r os' S' v H' q s z => ?_, fun c fs os' S' d gs H' q s z hd hr => ?_⟩
    · split at q
      · rename_i e3 hg
        have x3 := join S' H' _ s z
        obtain ⟨k3, x4⟩ := give_cl (Γ := (v, r) :: Γ) k2 (x3.perm (by
          show ((v, r) :: (vs.zip os' ++ (Γ ++ cl σ e2))).Perm (vs.zip os' ++ ((v, r) :: (Γ ++ cl σ e2)))
          exact List.perm_middle.symm)) b1 hg
        exact fin S' (.t r) e3 v H' (s1.trans s) k3 x4 trivial q
      · exact q.elim
    · split at q
      · rename_i e3 hg
        have x3 := join S' H' _ s z
        obtain ⟨k3, x4⟩ := give_cl (Γ := Γ) k2 x3 b1 hg
        exact wx.ex S' c fs gs e3 σ H' d fx k3 x4.dropL hd hr q
      · exact q.elim
  · exact h1.elim
theorem v_call {x : Str} {p : Pos} {k : Nat} {f : Addr} {fd : FuncData} {ps : List Str} (wx : Wx X G F W E) (Fn : FnOk X.prog X.w X.K X.mg X.base (L2N.CX X.prog X.w) k f fd ps (VSp X.K C)) (hr : Room k X.A) (hg : Gl X x) (hm : X.mg x = some (.ref f)) (hk : PySem.W.keepIn X.K (.ref f) = true) (hb : Binds X.K fd ps []) (ha : VA X G F (e :: es) tA sL)
    (hdb : (x == ("__debug__" : Str)) = false := by decide) (he : starEach (e :: es) X.env = (false, eval e X.env) :: starEach es X.env := by rfl) (hpl : (backTo pos (starEach es X.env)).any (·.1) = false := by rfl) :
    VE X G F (.Call (.Name x p) (e :: es) [] pos) (tCallS (VSp X.K C) (WE W) tA) (sCall C E sL) := ⟨pe_callS Fn hr hg hm hk hb (fun σ => L2N.passAt wx.tk σ) ha.pa hdb he hpl, lk_call wx ha.lk⟩
end
def prs (ios : List Nat) : Nat → List OD → Option (List Rv)
  | _, [] => some []
  | j, o :: r => match prs ios (j + 1) r with
    | some rs => (match ios.contains j, o with
      | true, _ => some (.bor j :: rs)
      | false, .st d => some (.t (.st d) :: rs)
      | _, _ => none)
    | none => none
def outs (ios : List Nat) (os : List OD) (env : En) (Q : List OD → Prop) : Prop := match prs ios 0 os with
  | some rs => (match takeL rs env with
    | some (os', _) => Q os'
    | none => False)
  | none => False
def en0 (N : List Str) (os : List OD) : En := os.map some ++ List.replicate (N.length - os.length) none
section
variable {K : Fr} {G : Gh} {S H : Hp}
theorem en0_ok : ∀ {vs : List V} {os : List OD} (n : Nat), vs.length = os.length → EnOk (vs.map some ++ List.replicate n none) (os.map some ++ List.replicate n none) ∧ cl (vs.map some ++ List.replicate n none) (os.map some ++ List.replicate n none) = vs.zip os
  | [], [], 0, _ => ⟨.nil, rfl⟩
  | [], [], n + 1, _ => by
    obtain ⟨h1, h2⟩ := en0_ok (vs := []) (os := []) n rfl
    refine ⟨?_, ?_⟩
    · show EnOk (none :: List.replicate n none) (none :: List.replicate n none)
      exact .off h1
    · show cl (none :: List.replicate n none) (none :: List.replicate n none) = []
      rw [cl_off]; exact h2
  | v :: vs, o :: os, n, e => by
    obtain ⟨h1, h2⟩ := en0_ok (vs := vs) (os := os) n (by simpa using e)
    exact ⟨.on h1, by show (v, o) :: cl (vs.map some ++ List.replicate n none) (os.map some ++ List.replicate n none) = _; rw [h2]; rfl⟩
theorem prs_ok {σ s0 : L2.St} {ios : List Nat} (fx : Fix ⟨ios, s0⟩ σ) : ∀ {j : Nat} {vs : List V} {os : List OD} {rs : List Rv} {Γ : Cl}, (∀ (i : Nat) (v : V), vs[i]? = some v → s0[j + i]? = some (some v)) → prs ios j os = some rs → vs.length = os.length →
    (∀ (i : Nat) (v : V) (d : D), vs[i]? = some v → os[i]? = some (OD.st d) → Rep K S v d) → VSt K G S Γ H → bokL σ vs rs ∧ VSt K G S (rclL vs rs ++ Γ) H
  | j, [], [], rs, Γ, h0, h, _, hr, x => by
    cases h
    exact ⟨trivial, x⟩
  | j, v :: vs, o :: os, rs, Γ, h0, h, hl, hr, x => by
    unfold prs at h
    split at h
    · rename_i rs' h'
      obtain ⟨b, y⟩ := prs_ok (j := j + 1) fx (vs := vs) (os := os) (Γ := Γ) (fun i v' e => by
        have := h0 (i + 1) v' (by simpa using e)
        rw [show j + 1 + i = j + (i + 1) by omega]; exact this) h' (by simpa using hl) (fun i v' d e1 e2 => hr (i + 1) v' d (by simpa using e1) (by simpa using e2)) x
      split at h
      · rename_i hc
        cases h
        refine ⟨⟨?_, b⟩, y⟩
        have hm : j ∈ ios := by simpa using hc
        show σ[j]? = some (some v)
        rw [fx j hm]
        exact h0 0 v rfl
      · cases h
        exact ⟨⟨trivial, b⟩, y.addSt (hr 0 v _ rfl rfl)⟩
      · cases h
    · cases h
theorem VSt.zipRep : ∀ {vs : List V} {os : List OD} {i : Nat} {v : V} {d : D}, VSt K G S (vs.zip os) H → vs[i]? = some v → os[i]? = some (.st d) → Rep K S v d
  | [], _, _, _, _, _, e, _ => by simp at e
  | _ :: _, [], _, _, _, _, _, e => by simp at e
  | v' :: vs, o :: os, 0, v, d, x, e1, e2 => by
    simp at e1 e2
    subst e1; subst e2
    exact VSt.rep (show VSt K G S ((v', .st d) :: vs.zip os) H from x)
  | v' :: vs, o :: os, i + 1, v, d, x, e1, e2 => VSt.zipRep (VSt.drop (show VSt K G S ((v', o) :: vs.zip os) H from x)) (by simpa using e1) (by simpa using e2)
end
def exq (ios : List Nat) (os : List OD) (E1 : Addr → List (Str × D) → List OD → Prop) : XQ := fun c fs env => outs ios os env fun os' => E1 c fs os'
def ends (ios : List Nat) (os : List OD) (Q1 : OD → List OD → Prop) : De := { nx := fun env => outs ios os env fun os' => Q1 (.st .non) os', rt := fun o env => outs ios os env fun os' => Q1 o os' }
theorem def_of {P : Program} {w : World} {K : Fr} {mg : Str → Option Value} {base : Heap} {x qual : Str} {params : Arguments} {bodyS : List Stmt} {scope : Scope} {dvs : List V} {kws : List (Str × V)} {f : Addr} {fd : FuncData} {N ps : List Str} {k : Nat} {C : Ctr} (ios : List Nat)
    (Fd : FunD K x qual params bodyS scope dvs kws f fd) (Sc : FnScope N ps scope) (len : ∀ os Q E, C os Q E → os.length = ps.length)
    (hbody : ∀ (cdv : Value) (A : Around) (outer : List Env) (s : Shared) (H : Hp) (G : Gh) (s0 : L2.St) (E : XK) (os : List OD) (Q1 : OD → List OD → Prop) (E1 : Addr → List (Str × D) → List OD → Prop), Room k (A.deeper (envOfC qual scope s.heap.objs.size f cdv)) → C os Q1 E1 →
      Wx (cxOf (L2N.CX P w) P w K mg base N qual scope f cdv A outer s H E) G ⟨ios, s0⟩ (fun cls d _ H => E cls d H) (exq ios os E1) →
      ∃ ts t, VB (cxOf (L2N.CX P w) P w K mg base N qual scope f cdv A outer s H E) G ⟨ios, s0⟩ bodyS ts t ∧ t (ends ios os Q1) (en0 N os)) :
    FnOk P w K mg base (L2N.CX P w) (k + 1) f fd ps (VSp K C) := by
  refine Fd.ok Sc (fun vs H Q E h => ?_) (fun cdv A outer s H vs Q E hr h => ?_)
  · obtain ⟨S, os, fp, Q1, E1, hl, _, hc, _⟩ := h
    rw [hl]; exact len _ _ _ hc
  · obtain ⟨S, os, fp, Q1, E1, hl, x, hc, hq, he⟩ := h
    have hps := len _ _ _ hc
    obtain ⟨k0, e0⟩ := en0_ok (N.length - os.length) hl
    have hst : L2.start N vs = vs.map some ++ List.replicate (N.length - os.length) none := by unfold L2.start; rw [hl]
    have fix0 : Fix ⟨ios, L2.start N vs⟩ (L2.start N vs) := fun _ _ => rfl
    have h0 : ∀ i v, vs[i]? = some v → (L2.start N vs)[0 + i]? = some (some v) := fun i v e => by
      unfold L2.start
      rw [Nat.zero_add, List.getElem?_append_left (by simpa using (List.getElem?_eq_some_iff.mp e).1), List.getElem?_map, e]; rfl
    have fin : ∀ {S' : Hp} {Γ : Cl} {env : En} {σ : L2.St} {H' : Hp} {R : List OD → Prop}, Sub S S' → Fix ⟨ios, L2.start N vs⟩ σ → EnOk σ env → VSt K ⟨S, H, fp⟩ S' (Γ ++ cl σ env) H' → outs ios os env R → ∃ os', R os' ∧ VSt K ⟨S, H, fp⟩ S' (Γ ++ vs.zip os') H' := by
      intro S' Γ env σ H' R s fx k' x' h
      unfold outs at h
      split at h
      · rename_i rs hrs
        split at h
        · rename_i os' e2 ht
          obtain ⟨b, y⟩ := prs_ok (K := K) (G := ⟨S, H, fp⟩) (S := S') (H := H') fx (j := 0) (vs := vs) (os := os) (Γ := Γ ++ cl σ env) h0 hrs hl (fun i v d e1 e2 => (x.zipRep e1 e2).mono s) x'
          obtain ⟨k2, x2, l2⟩ := take_cl (Γ := Γ) k' y b ht
          refine ⟨os', h, ?_⟩
          have p1 : (vs.zip os' ++ (Γ ++ cl σ e2)).Perm (cl σ e2 ++ (Γ ++ vs.zip os')) := by
            rw [← List.append_assoc]
            refine List.perm_append_comm.trans ?_
            exact (List.perm_append_comm).append_left _
          exact (x2.perm p1).dropL
        · exact h.elim
      · exact h.elim
    have wx : Wx (cxOf (L2N.CX P w) P w K mg base N qual scope f cdv A outer s H E) ⟨S, H, fp⟩ ⟨ios, L2.start N vs⟩ (fun cls d _ H => E cls d H) (exq ios os E1) := by
      refine ⟨L2N.takes_of rfl rfl rfl rfl, passes_of rfl, rfl, fun S' c fs gs env σ H' d fx k' x' hd hr q => ?_⟩
      by_cases hs : Sub S S'
      · obtain ⟨os', q', y⟩ := fin (Γ := []) hs fx k' x' q
        exact he c fs os' S' d gs H' q' hs y hd hr
      · exact absurd x'.grow hs
    obtain ⟨ts, t, hb, ht⟩ := hbody cdv A outer s H ⟨S, H, fp⟩ (L2.start N vs) E os Q1 E1 hr hc wx
    refine ⟨ts, hb.ps, ?_⟩
    have k1 : EnOk (L2.start N vs) (en0 N os) := by rw [hst]; exact k0
    have x1 : VSt K ⟨S, H, fp⟩ S (cl (L2.start N vs) (en0 N os)) H := by
      rw [hst, show en0 N os = os.map some ++ List.replicate (N.length - os.length) none from rfl, e0]; exact x
    refine hb.lk S (en0 N os) _ H _ _ fix0 k1 x1 ht ⟨fun S' env σ H' s _ fx k' x' q => ?_, fun _ _ _ _ _ _ _ _ _ q => q.elim, fun _ _ _ _ _ _ _ _ _ q => q.elim, fun S' o env σ v H' s _ fx k' x' q => ?_⟩
    · obtain ⟨os', q', y⟩ := fin (Γ := []) s fx k' x' q
      exact hq _ os' S' .non H' q' s (y.addSt .non)
    · obtain ⟨os', q', y⟩ := fin (Γ := [(v, o)]) s fx k' x' q
      exact hq _ os' S' v H' q' s y
end VL
-- V8
set_option maxHeartbeats 1000000
namespace VL
open PySem PySem.Spec PyProof.Rows L2
def ItOk (K : Fr) (S : Hp) (J : It) (n : Nat) (ys : Nat → D) : Prop := ∃ (Gd : Hp → Prop) (Y : Nat → Hp → V → Hp → Prop), Walk J n Gd Y ∧ (∀ H S', Sub S S' → Sub S' H → Gd H) ∧
  (∀ (G : Gh) (Γ : Cl) i H x H' S', i < n → Sub S S' → VSt K G S' Γ H → Y i H x H' → ∃ S2, Sub S' S2 ∧ VSt K G S2 Γ H' ∧ Rep K S2 x (ys i))
abbrev TVI := En → (Nat → (Nat → D) → En → Prop) → Prop
def LkI (K : Fr) (G : Gh) (F : Fx) (wi : TI) (u : TVI) : Prop := ∀ (S : Hp) (Γ : Cl) (env : En) (σ : L2.St) (H : Hp) (Q : Nat → (Nat → D) → En → Prop) (R : It → Hp → Prop), Fix F σ → EnOk σ env → VSt K G S (Γ ++ cl σ env) H → u env Q →
  (∀ S' n ys env' J H', Sub S S' → EnOk σ env' → VSt K G S' (Γ ++ cl σ env') H' → ItOk K S' J n ys → Q n ys env' → R J H') → wi σ H R
structure VI (X : Cx) (G : Gh) (F : Fx) (tg it : Expr) (wi : TI) (u : TVI) : Prop where
  pi : PI X tg it wi
  lk : LkI X.K G F wi u
abbrev TVG := D → En → (En → Prop) → Prop
def LkG (K : Fr) (G : Gh) (F : Fx) (g : TG) (t : TVG) (tl : List Nat) : Prop := ∀ (S : Hp) (Γ : Cl) (env : En) (σ : L2.St) (H : Hp) (d : D) (v : V) (Q : En → Prop) (P : L2.St → Hp → Prop), Fix F σ → EnOk σ env → VSt K G S (Γ ++ cl σ env) H → Rep K S v d → t d env Q →
  (∀ env' σ', σ'.length = σ.length → (∀ j : Nat, j ∉ tl → σ'[j]? = σ[j]?) → Fix F σ' → EnOk σ' env' → VSt K G S (Γ ++ cl σ' env') H → Q env' → P σ' H) → g v σ H P
structure VG (X : Cx) (G : Gh) (F : Fx) (tg : Expr) (g : TG) (t : TVG) (tl : List Nat) : Prop where
  pg : PG X tg g
  lk : LkG X.K G F g t tl
section
variable {X : Cx} {G : Gh} {F : Fx} {K : Fr} {a b c e tg it : Expr} {es elts : List Expr} {ta tb tc te : TE} {tA : TA} {tt tu : TT} {sa sb sc : TV} {ss su : TB} {sL : TVL} {ts tr : TS} {t u : TSV} {wi : TI} {ui : TVI} {g : TG} {tG : TVG} {body : List Stmt} {pos p : Pos}
theorem VSt.storeΓ {S H : Hp} {σ : L2.St} {env : En} {i : Nat} {v : V} {o : OD} {Γ : Cl} (k : EnOk σ env) (hi : i < σ.length) (x : VSt K G S ((v, o) :: (Γ ++ cl σ env)) H) :
    EnOk (σ.set i (some v)) (env.set i (some o)) ∧ VSt K G S (Γ ++ cl (σ.set i (some v)) (env.set i (some o))) H := by
  obtain ⟨p, k2⟩ := k.put (o := o) (v := v) hi
  obtain ⟨⟨c, q⟩, _⟩ := k.clr i
  refine ⟨k2, ?_⟩
  have a1 : ((v, o) :: (Γ ++ cl σ env)).Perm (c ++ (Γ ++ cl (σ.set i (some v)) (env.set i (some o)))) := by
    have b1 : (Γ ++ cl σ env).Perm (c ++ (Γ ++ cl σ (env.set i none))) := by
      refine (q.append_left Γ).trans ?_
      rw [← List.append_assoc, ← List.append_assoc]
      exact List.perm_append_comm.append_right _
    refine (b1.cons _).trans ?_
    refine List.perm_middle.symm.trans (List.Perm.append_left c ?_)
    exact (List.perm_middle.symm).trans (p.symm.append_left Γ)
  exact (x.perm a1).dropL
def gSlot (i : Nat) : TVG := fun d e Q => i < e.length ∧ Q (e.set i (some (.st d)))
theorem lk_slot {i : Nat} (hio : i ∉ F.ios) : LkG K G F (gName i) (gSlot i) [i] := by
  intro S Γ env σ H d v Q P fx k x r h fin
  have hi : i < σ.length := by rw [k.len]; exact h.1
  obtain ⟨k2, x2⟩ := VSt.storeΓ (i := i) k hi (x.addSt r)
  exact fin _ _ (List.length_set ..) (fun j hj => List.getElem?_set_ne (fun z => hj (by simp [z]))) (fx.set hio) k2 x2 h.2
theorem g_name {i : Nat} {x : Str} (hio : i ∉ F.ios) (hN : X.N.Nodup) (hi : X.N[i]? = some x) (hx : Loc X.env.scope x) (hf : X.fn x = true ∨ X.env.scope.names.lookup x = some .local := by first | exact .inl rfl | exact .inr rfl | assumption) : VG X G F (.Name x pos) (gName i) (gSlot i) [i] := ⟨pg_name hN hi hx hf, lk_slot hio⟩
abbrev TVGs := List D → En → (En → Prop) → Prop
def LkGs (K : Fr) (G : Gh) (F : Fx) (g : TGs) (t : TVGs) (tl : List Nat) : Prop := ∀ (S : Hp) (Γ : Cl) (env : En) (σ : L2.St) (H : Hp) (ds : List D) (vs : List V) (Q : En → Prop) (P : L2.St → Hp → Prop), Fix F σ → EnOk σ env → VSt K G S (Γ ++ cl σ env) H → RepL K S vs ds → t ds env Q →
  (∀ env' σ', σ'.length = σ.length → (∀ j : Nat, j ∉ tl → σ'[j]? = σ[j]?) → Fix F σ' → EnOk σ' env' → VSt K G S (Γ ++ cl σ' env') H → Q env' → P σ' H) → g vs σ H P
structure VGs (X : Cx) (G : Gh) (F : Fx) (tg : List Expr) (g : TGs) (t : TVGs) (tl : List Nat) : Prop where
  pg : PGs X tg g
  lk : LkGs X.K G F g t tl
def gEnd : TVGs := fun ds e Q => match ds with
  | [] => Q e
  | _ => False
def gMore (t : TVG) (u : TVGs) : TVGs := fun ds e Q => match ds with
  | d :: r => t d e fun e2 => u r e2 Q
  | [] => False
theorem gs_nil : VGs X G F [] gNil gEnd [] := ⟨pgs_nil, fun S Γ env σ H ds vs Q P fx k x r h fin => by
  cases r with
  | nil => exact ⟨rfl, fin env σ rfl (fun _ _ => rfl) fx k x h⟩
  | cons _ _ => exact (h : False).elim⟩
theorem gs_cons {tgs : TGs} {tG2 : TVGs} {l1 l2 : List Nat} (h1 : VG X G F e g tG l1) (h2 : VGs X G F es tgs tG2 l2) (hs : (assignEach (e :: es) X.env).map (·.2) = assign e X.env :: (assignEach es X.env).map (·.2) := by rfl) : VGs X G F (e :: es) (gCons g tgs) (gMore tG tG2) (l1 ++ l2) := ⟨pgs_cons h1.pg h2.pg hs, fun S Γ env σ H ds vs Q P fx k x r h fin => by
  cases r with
  | nil => exact (h : False).elim
  | @cons v d vs ds r1 r2 =>
    refine ⟨v, vs, rfl, h1.lk S Γ env σ H d v _ _ fx k x r1 h fun env1 σ1 l1 o1 fx1 k1 x1 q1 => ?_⟩
    exact h2.lk S Γ env1 σ1 H ds vs _ _ fx1 k1 x1 r2 q1 fun env2 σ2 l2 o2 fx2 k2 x2 q2 => fin env2 σ2 (l2.trans l1) (fun j hj => (o2 j fun z => hj (List.mem_append_right _ z)).trans (o1 j fun z => hj (List.mem_append_left _ z))) fx2 k2 x2 q2⟩
def gTupV (n : Nat) (t : TVGs) : TVG := fun d e Q => match d with
  | .tup ds => ds.length = n ∧ t ds e Q
  | _ => False
theorem g_tup {kk : Nat} {n : Nat} {tgs : TGs} {tG2 : TVGs} {l2 : List Nat} (h : VGs X G F es tgs tG2 l2) (hp : PGs X es tgs → PG X (.Tuple es kk pos) (gTup X.K n tgs)) : VG X G F (.Tuple es kk pos) (gTup X.K n tgs) (gTupV n tG2) l2 :=
  ⟨hp h.pg, fun S Γ env σ H d v Q P fx k x r hh fin => by
    cases d <;> first | exact (hh : False).elim | skip
    cases r with
    | tup ht hr => exact ⟨_, _, rfl, (ht.mono x.sub).sq, by rw [hr.length]; exact hh.1, h.lk S Γ env σ H _ _ _ _ fx k x hr hh.2 fin⟩⟩
def uRng1 (s : TVL) : TVI := fun env Q => s env fun rs e => match rs with
  | [r] => r.asI fun j => (-(2 ^ 62) ≤ j ∧ j < 2 ^ 62) ∧ Q j.toNat (fun i => .int (i : Nat)) e
  | _ => False
theorem it_rng {S : Hp} {lo : Int} {n : Nat} : ItOk K S (Itr lo n) n fun i => .int (lo + (i : Nat)) :=
  ⟨_, _, walk_range, fun _ _ _ _ => trivial, fun G Γ i H x H' S' hi s y h => by
    obtain ⟨h1, h2⟩ := h
    subst h1 h2
    exact ⟨S', Sub.refl, y, .int⟩⟩
theorem asI_rep {S H : Hp} {Γ : Cl} {v : V} {r : Rv} {i : Int} (e : r = .t (.st (.int i))) (x : VSt K G S (rcl v r ++ Γ) H) : v = .int i := by
  subst e
  have z := VSt.rep x
  cases z; rfl
theorem lk_rng1 (ha : LkA K G F tA sL) : LkI K G F (iRng1 tA) (uRng1 sL) := by
  intro S Γ env σ H Q R fx k x h fin
  refine ha S Γ env σ H _ _ fx k x h fun S1 rs e1 vs H1 s1 k1 x1 b1 h1 => ?_
  match rs, b1, h1, x1 with
  | [r], b1, h1, x1 =>
    obtain ⟨v, ev, bv⟩ := bokL1 b1
    subst ev
    rw [rcl1] at x1
    obtain ⟨j, e, q⟩ := Rv.asI_inv h1
    have ev := asI_rep e x1
    subst ev
    refine ⟨j, rfl, q.1.1, q.1.2, ?_⟩
    have w := it_rng (K := K) (S := S1) (lo := 0) (n := j.toNat)
    have : (fun i : Nat => D.int (0 + (i : Nat))) = fun i : Nat => D.int (i : Nat) := by funext i; rw [Int.zero_add]
    rw [this] at w
    exact fin S1 j.toNat _ e1 _ H1 s1 k1 x1.dropL w q.2
theorem i_rng1 (hg : Gl X "range") (hm : X.mg "range" = none) (ha : VA X G F [a] tA sL) (hs : starEach [a] X.env = [(false, eval a X.env)] := by rfl) : VI X G F tg (.Call (.Name "range" p) [a] [] pos) (iRng1 tA) (uRng1 sL) := ⟨pi_range1 hg hm ha.pa hs, lk_rng1 ha.lk⟩
def uRng2 (s : TVL) : TVI := fun env Q => s env fun rs e => match rs with
  | [r, r2] => r.asI fun i => r2.asI fun j => (-(2 ^ 62) ≤ i ∧ i < 2 ^ 62 ∧ -(2 ^ 62) ≤ j ∧ j < 2 ^ 62) ∧ Q (j - i).toNat (fun k => .int (i + (k : Nat))) e
  | _ => False
theorem bokL2 {vs : List V} {r r2 : Rv} {σ : L2.St} (b : bokL σ vs [r, r2]) : ∃ v w, vs = [v, w] ∧ bok σ v r ∧ bok σ w r2 := by
  cases vs with
  | nil => exact b.elim
  | cons v vs => cases vs with
    | nil => exact b.2.elim
    | cons w vs => cases vs with
      | nil => exact ⟨v, w, rfl, b.1, b.2.1⟩
      | cons _ _ => exact b.2.2.elim
theorem rcl2 {v w : V} {r r2 : Rv} {Γ : Cl} : rclL [v, w] [r, r2] ++ Γ = rcl v r ++ (rcl w r2 ++ Γ) := by
  show (rcl v r ++ (rcl w r2 ++ [])) ++ Γ = _
  rw [List.append_nil, List.append_assoc]
theorem lk_rng2 (ha : LkA K G F tA sL) : LkI K G F (iRng2 tA) (uRng2 sL) := by
  intro S Γ env σ H Q R fx k x h fin
  refine ha S Γ env σ H _ _ fx k x h fun S1 rs e1 vs H1 s1 k1 x1 b1 h1 => ?_
  match rs, b1, h1, x1 with
  | [r, r2], b1, h1, x1 =>
    obtain ⟨v, w, ev, bv, bw⟩ := bokL2 b1
    subst ev
    rw [rcl2] at x1
    obtain ⟨i, e, q⟩ := Rv.asI_inv h1
    obtain ⟨j, e2, q⟩ := Rv.asI_inv q
    have ev := asI_rep e x1
    have ew := asI_rep e2 (x1.dropL)
    subst ev ew
    exact ⟨i, j, rfl, q.1, fin S1 _ _ e1 _ H1 s1 k1 x1.dropL.dropL it_rng q.2⟩
theorem i_rng2 (hg : Gl X "range") (hm : X.mg "range" = none) (ha : VA X G F [a, b] tA sL) (hs : starEach [a, b] X.env = [(false, eval a X.env), (false, eval b X.env)] := by rfl) (hs2 : starEach [b] X.env = [(false, eval b X.env)] := by rfl) : VI X G F tg (.Call (.Name "range" p) [a, b] [] pos) (iRng2 tA) (uRng2 sL) := ⟨pi_range2 hg hm ha.pa hs hs2, lk_rng2 ha.lk⟩
def iSeq (K : Fr) (tl : TE) : TI := fun σ H R => tl σ H fun x H1 => ∃ a, x = .ref a ∧ (((∃ xs, SqL K H1 a xs) ∧ R (Itl K a) H1) ∨ ((∃ xs, SqT K H1 a xs) ∧ R (Itt K a) H1))
theorem pi_seq {l : Expr} {tl : TE} (hl : PE X l tl) : PI X tg l (iSeq X.K tl) := by
  refine ⟨fun pins s σ H R I h => ?_⟩
  refine thn (hl.run pins s σ H _ I h) fun v s1 hh => ?_
  obtain ⟨x, H1, I1, r1, a, e, q1⟩ := hh
  subst e
  cases r1
  have fp1 : ∀ b ∈ [s1.heap.objs.size], FpOk X pins H1 b := fun b hb => by
    have e : b = s1.heap.objs.size := by simpa using hb
    rw [e]
    exact I1.fpOk (Nat.le_refl _) (I1.hok.fresh (Nat.le_refl _))
  rcases q1 with ⟨⟨xs, hq⟩, q⟩ | ⟨⟨xs, hq⟩, q⟩
  · obtain ⟨its, rv, p, hz⟩ := I1.list hq
    refine wpAny_pyIter_list p.isList ⟨s1.heap.objs.size, [s1.heap.objs.size], _, _, H1, rfl, I1.kept (t' := s1.toks) fun b o e => Heap.get?_push_of_some _ e, turn_list a _, ?_, fp1, q⟩
    exact ⟨_, Heap.get?_push_size _ rfl, rfl, rfl⟩
  · obtain ⟨its, rv, p, hz⟩ := I1.tuple hq
    refine wpAny_pyIter_tuple (show s1.heap.IsTuple a its.toArray from p) ⟨s1.heap.objs.size, [s1.heap.objs.size], _, _, H1, rfl, I1.kept (t' := s1.toks) fun b o e => Heap.get?_push_of_some _ e, turn_tuple a _, ?_, fp1, q⟩
    exact ⟨_, Heap.get?_push_size _ rfl, rfl, rfl⟩
theorem it_seq {S : Hp} {a : Addr} {vs : List V} {ds : List D} (h : (S a = some (.lst vs)) ∨ SqL K S a vs) (r : RepL K S vs ds) : ItOk K S (Itl K a) ds.length fun i => ds.getD i .non := by
  have sq : SqL K S a vs := h.elim SqL.of id
  refine ⟨_, _, r.length ▸ walk_list (K := K) (a := a) (xs := vs), fun H S' s1 s2 => SqL.mono (s1.trans s2) sq, fun G Γ i H x H' S' hi s y hh => ?_⟩
  obtain ⟨h1, h2⟩ := hh
  subst h1
  obtain ⟨d, h3, h4⟩ := r.getV h2
  exact ⟨S', Sub.refl, y, by show Rep K S' x (ds.getD i .non); rw [List.getD_eq_getElem?_getD, h3]; exact h4.mono s⟩
theorem it_tup {S : Hp} {a : Addr} {vs : List V} {ds : List D} (sq : SqT K S a vs) (r : RepL K S vs ds) : ItOk K S (Itt K a) ds.length fun i => ds.getD i .non := by
  refine ⟨_, _, r.length ▸ walk_tup (K := K) (a := a) (xs := vs), fun H S' s1 s2 => SqT.mono (s1.trans s2) sq, fun G Γ i H x H' S' hi s y hh => ?_⟩
  obtain ⟨h1, h2⟩ := hh
  subst h1
  obtain ⟨d, h3, h4⟩ := r.getV h2
  exact ⟨S', Sub.refl, y, by show Rep K S' x (ds.getD i .non); rw [List.getD_eq_getElem?_getD, h3]; exact h4.mono s⟩
def D.items : D → Option (List D)
  | .lst ds => some ds
  | .tup ds => some ds
  | .scr ns => some (ns.map .int)
  | _ => none
def uSeq (s : TV) : TVI := fun env Q => s env fun r e => r.asT fun o => match (frz o).items with
  | some ds => Q ds.length (fun i => ds.getD i .non) e
  | none => False
theorem lk_seqI (ha : Lk K G F te sa) : LkI K G F (iSeq K te) (uSeq sa) := by
  intro S Γ env σ H Q R fx k x h fin
  refine ha S Γ env σ H _ _ fx k x h fun S1 r e1 v H1 s1 k1 x1 b1 h1 => ?_
  obtain ⟨o, e, q⟩ := Rv.asT_inv h1
  subst e
  obtain ⟨S2, s2, x2⟩ := VSt.freeze x1
  have rr := x2.rep
  split at q
  · rename_i ds hd
    cases hf : frz o <;> rw [hf] at hd rr <;> first | cases hd | skip
    · cases rr with
      | tup ht hr => exact ⟨_, rfl, .inr ⟨⟨_, (ht.mono x2.sub).sq⟩, fin S2 _ _ e1 _ H1 (s1.trans s2) k1 x2.drop (it_tup ht.sq hr) q⟩⟩
    · cases rr with
      | lst ht hr => exact ⟨_, rfl, .inl ⟨⟨_, SqL.of (x2.sub _ _ ht)⟩, fin S2 _ _ e1 _ H1 (s1.trans s2) k1 x2.drop (it_seq (.inl ht) hr) q⟩⟩
    · cases rr with
      | scr ht => exact ⟨_, rfl, .inl ⟨⟨_, SqL.mono x2.sub ht⟩, fin S2 _ _ e1 _ H1 (s1.trans s2) k1 x2.drop (it_seq (.inr ht) (RepL.ints _)) q⟩⟩
  · exact q.elim
theorem i_seq (ha : VE X G F e te sa) : VI X G F tg e (iSeq X.K te) (uSeq sa) := ⟨pi_seq ha.pe, lk_seqI ha.lk⟩
def sFor (u : TVI) (tG : TVG) (sb : TSV) : TSV := fun D env => u env fun n ys e => ∃ I : Nat → En → Prop, I 0 e ∧ (∀ m e, m < n → I m e → tG (ys m) e fun e2 => sb { D with nx := I (m + 1), ct := I (m + 1), bk := D.nx } e2) ∧ ∀ e, I n e → D.nx e
theorem lk_for {tl : List Nat} (hu : LkI K G F wi ui) (hg : LkG K G F g tG tl) (hb : LkS K G F ts t) : LkS K G F (tFor wi g ts) (sFor ui tG t) := by
  intro S env σ H D E fx k x hh c
  refine hu S [] env σ H _ _ fx k x hh fun S1 n ys e1 J H1 s1 k1 x1 it q => ?_
  obtain ⟨Gd, Y, w, hG, hY⟩ := it
  obtain ⟨I, i0, istep, iend⟩ := q
  refine for_it w (fun m σ' H' => ∃ S' env', Sub S1 S' ∧ σ'.length = σ.length ∧ Fix F σ' ∧ EnOk σ' env' ∧ VSt K G S' (cl σ' env') H' ∧ I m env') ⟨S1, e1, Sub.refl, rfl, fx, k1, x1, i0⟩ (fun m σ' H' _ ⟨S', env', s', _, _, _, y, _⟩ => hG H' S' s' y.sub) (fun m v σ' H' H2 hm ⟨S', env', s', l', fx', k', y, im⟩ hy => ?_) (fun σ' H' ⟨S', env', s', l', fx', k', y, im⟩ => ?_)
  · obtain ⟨S2, s2, y2, r2⟩ := hY G _ m H' v H2 S' hm s' y hy
    refine hg S2 [] env' σ' H2 (ys m) v _ _ fx' k' y2 r2 (istep m env' hm im) fun env2 σ2 l2 o2 fx2 k2 x2 q2 => ?_
    have len2 : σ2.length = σ.length := l2.trans l'
    have nx : ∀ S3 env3 σ3 H3, Sub S2 S3 → σ3.length = σ2.length → Fix F σ3 → EnOk σ3 env3 → VSt K G S3 (cl σ3 env3) H3 → I (m + 1) env3 → ∃ S' env', Sub S1 S' ∧ σ3.length = σ.length ∧ Fix F σ3 ∧ EnOk σ3 env' ∧ VSt K G S' (cl σ3 env') H3 ∧ I (m + 1) env' :=
      fun S3 env3 σ3 H3 s3 l3 fx3 k3 x3 i3 => ⟨S3, env3, s'.trans (s2.trans s3), l3.trans len2, fx3, k3, x3, i3⟩
    have sAll : Sub S S2 := s1.trans (s'.trans s2)
    exact hb S2 env2 σ2 H2 _ _ fx2 k2 x2 q2 ⟨nx, fun S3 env3 σ3 H3 s3 l3 fx3 k3 x3 q3 => c.nx S3 env3 σ3 H3 (sAll.trans s3) (l3.trans len2) fx3 k3 x3 q3, nx, fun S3 o env3 σ3 v3 H3 s3 l3 fx3 k3 x3 q3 => c.rt S3 o env3 σ3 v3 H3 (sAll.trans s3) (l3.trans len2) fx3 k3 x3 q3⟩
  · exact c.nx S' env' σ' H' (s1.trans s') l' fx' k' y (iend env' im)
theorem s_for {tl : List Nat} (wxp : PassesOwn (model X.prog X.w) X.A X.env X.xe) (hc : X.calm = true) (hi : VI X G F tg it wi ui) (hg : VG X G F tg g tG tl) (hb : VB X G F body ts t) (hs : ∀ x, foldedSetIterable it X.env x = pure x := by intro _; rfl) : VS X G F (.For tg it body [] pos) (tFor wi g ts) (sFor ui tG t) :=
  ⟨ps_for wxp hc hi.pi hg.pg hb.ps hs, lk_for hi.lk hg.lk hb.lk⟩
def sWhile (s : TB) (sb : TSV) : TSV := fun D env => ∃ (I : Nat → En → Prop), (∃ m, I m env) ∧ ∀ m e, I m e → s e fun b e2 => match b with
  | true => sb { D with nx := fun e3 => ∃ m', m' < m ∧ I m' e3, ct := fun e3 => ∃ m', m' < m ∧ I m' e3, bk := D.nx } e2
  | false => D.nx e2
theorem lk_while (hc : LkT K G F tt ss) (hb : LkS K G F ts t) : LkS K G F (tWhile tt ts) (sWhile ss t) := by
  intro S env σ H D E fx k x hh c
  obtain ⟨I, ⟨m0, i0⟩, step⟩ := hh
  refine ⟨fun m σ' H' => ∃ S' env', Sub S S' ∧ σ'.length = σ.length ∧ Fix F σ' ∧ EnOk σ' env' ∧ VSt K G S' (cl σ' env') H' ∧ I m env', ⟨m0, S, env, Sub.refl, rfl, fx, k, x, i0⟩, fun m σ' H' hW => ?_⟩
  obtain ⟨S', env', s', l', fx', k', y, im⟩ := hW
  refine hc S' [] env' σ' H' _ _ fx' k' y (step m env' im) fun S2 b e2 H2 s2 k2 x2 q2 => ?_
  cases b with
  | true =>
    refine iteT ⟨fun σ3 H3 => ∃ m', m' < m ∧ ∃ S' env', Sub S S' ∧ σ3.length = σ.length ∧ Fix F σ3 ∧ EnOk σ3 env' ∧ VSt K G S' (cl σ3 env') H3 ∧ I m' env', fun σ3 H3 z => z, ?_⟩
    have nx : ∀ S3 env3 σ3 H3, Sub S2 S3 → σ3.length = σ'.length → Fix F σ3 → EnOk σ3 env3 → VSt K G S3 (cl σ3 env3) H3 → (∃ m', m' < m ∧ I m' env3) → ∃ m', m' < m ∧ ∃ S' env', Sub S S' ∧ σ3.length = σ.length ∧ Fix F σ3 ∧ EnOk σ3 env' ∧ VSt K G S' (cl σ3 env') H3 ∧ I m' env' :=
      fun S3 env3 σ3 H3 s3 l3 fx3 k3 x3 ⟨m', lt, i3⟩ => ⟨m', lt, S3, env3, s'.trans (s2.trans s3), l3.trans l', fx3, k3, x3, i3⟩
    have sAll : Sub S S2 := s'.trans s2
    exact hb S2 e2 σ' H2 _ _ fx' k2 x2 q2 ⟨nx, fun S3 env3 σ3 H3 s3 l3 fx3 k3 x3 q3 => c.nx S3 env3 σ3 H3 (sAll.trans s3) (l3.trans l') fx3 k3 x3 q3, nx, fun S3 o env3 σ3 v3 H3 s3 l3 fx3 k3 x3 q3 => c.rt S3 o env3 σ3 v3 H3 (sAll.trans s3) (l3.trans l') fx3 k3 x3 q3⟩
  | false => exact iteF (c.nx S2 e2 σ' H2 (s'.trans s2) l' fx' k2 x2 q2)
theorem s_while (wxp : PassesOwn (model X.prog X.w) X.A X.env X.xe) (hc : VT X G F c tt ss) (hb : VB X G F body ts t) : VS X G F (.While c body [] pos) (tWhile tt ts) (sWhile ss t) := ⟨ps_while wxp hc.pt hb.ps, lk_while hc.lk hb.lk⟩
end
end VL
-- V9
set_option maxHeartbeats 1000000
namespace VL
open PySem PySem.Spec PyProof.Rows L2
def wipeE (e : En) : List Nat → En
  | [] => e
  | v :: vs => (wipeE e vs).set v none
theorem EnOk.wipe1 : ∀ {σ : L2.St} {e : En} (i : Nat), EnOk σ e → (∃ c, (cl σ e).Perm (c ++ cl (σ.set i none) (e.set i none))) ∧ EnOk (σ.set i none) (e.set i none)
  | _, _, _, .nil => ⟨⟨[], .refl _⟩, .nil⟩
  | _, _, 0, .on (v := v) (o := o) k => ⟨⟨[(v, o)], .refl _⟩, .off k⟩
  | _, _, i + 1, .on (v := v) (o := o) k => by
    obtain ⟨⟨c, p⟩, h⟩ := EnOk.wipe1 i k
    exact ⟨⟨c, (p.cons (v, o)).trans (List.perm_middle.symm)⟩, .on h⟩
  | _, _, 0, .off k => ⟨⟨[], by rw [List.set_cons_zero, List.set_cons_zero, cl_off, cl_off]; exact .refl _⟩, .off k⟩
  | _, _, i + 1, .off k => by
    obtain ⟨⟨c, p⟩, h⟩ := EnOk.wipe1 i k
    refine ⟨⟨c, ?_⟩, .off h⟩
    rw [List.set_cons_succ, List.set_cons_succ, cl_off, cl_off]
    exact p
theorem EnOk.wipe {σ : L2.St} {e : En} (k : EnOk σ e) : ∀ vs : List Nat, (∃ c, (cl σ e).Perm (c ++ cl (L2.wipe σ vs) (wipeE e vs))) ∧ EnOk (L2.wipe σ vs) (wipeE e vs)
  | [] => ⟨⟨[], .refl _⟩, k⟩
  | v :: vs => by
    obtain ⟨⟨c, p⟩, h⟩ := EnOk.wipe k vs
    obtain ⟨⟨c2, p2⟩, h2⟩ := h.wipe1 v
    exact ⟨⟨c ++ c2, by rw [List.append_assoc]; exact p.trans (p2.append_left c)⟩, h2⟩
theorem EnOk.unwipe1 : ∀ {σ : L2.St} {e : En} (i : Nat), EnOk (σ.set i none) e → e[i]? = some none ∨ e.length ≤ i → EnOk σ e ∧ cl σ e = cl (σ.set i none) e
  | [], _, _, k, _ => ⟨k, rfl⟩
  | x :: σ, [], _, k, _ => by
    have := k.len
    simp at this
  | x :: σ, some o :: e, 0, k, h => by
    rcases h with h | h
    · simp at h
    · simp at h
  | x :: σ, none :: e, 0, k, _ => by
    rw [List.set_cons_zero] at k ⊢
    cases k with
    | off k => exact ⟨.off k, by rw [cl_off, cl_off]⟩
  | x :: σ, o :: e, i + 1, k, h => by
    rw [List.set_cons_succ] at k ⊢
    have h' : e[i]? = some none ∨ e.length ≤ i := by
      rcases h with h | h
      · exact .inl (by simpa using h)
      · exact .inr (by simpa using h)
    cases k with
    | on k =>
      obtain ⟨k2, e2⟩ := EnOk.unwipe1 i k h'
      exact ⟨.on k2, by show _ :: cl σ e = _ :: cl (σ.set i none) e; rw [e2]⟩
    | off k =>
      obtain ⟨k2, e2⟩ := EnOk.unwipe1 i k h'
      exact ⟨.off k2, by rw [cl_off, cl_off, e2]⟩
def offL (e : En) : List Nat → Prop
  | [] => True
  | v :: vs => (e[v]? = some none ∨ e.length ≤ v) ∧ offL e vs
theorem EnOk.unwipe {σ : L2.St} {e : En} : ∀ {vs : List Nat}, EnOk (L2.wipe σ vs) e → offL e vs → EnOk σ e ∧ cl σ e = cl (L2.wipe σ vs) e
  | [], k, _ => ⟨k, rfl⟩
  | v :: vs, k, h => by
    obtain ⟨k1, e1⟩ := EnOk.unwipe1 v (σ := L2.wipe σ vs) k h.1
    obtain ⟨k2, e2⟩ := EnOk.unwipe (vs := vs) k1 h.2
    exact ⟨k2, by rw [e2, e1]; rfl⟩
theorem off_set {e : En} {v : Nat} : ∀ {vs : List Nat}, offL e vs → offL (e.set v none) vs
  | [], _ => trivial
  | w :: vs, h => by
    refine ⟨?_, off_set h.2⟩
    rcases h.1 with q | q
    · by_cases z : v = w
      · subst z
        exact .inl (by rw [List.getElem?_set_self (List.getElem?_eq_some_iff.mp q).1])
      · exact .inl (by rw [List.getElem?_set_ne z]; exact q)
    · exact .inr (by rw [List.length_set]; exact q)
theorem wipeE_off (e : En) : ∀ vs : List Nat, offL (wipeE e vs) vs
  | [] => trivial
  | v :: vs => by
    refine ⟨?_, off_set (wipeE_off e vs)⟩
    show ((wipeE e vs).set v none)[v]? = some none ∨ ((wipeE e vs).set v none).length ≤ v
    by_cases h : v < (wipeE e vs).length
    · exact .inl (by rw [List.getElem?_set_self h])
    · exact .inr (by rw [List.length_set]; omega)
theorem Fix.wipe {F : Fx} {σ : L2.St} (h : Fix F σ) : ∀ {vs : List Nat}, (∀ v ∈ vs, v ∉ F.ios) → Fix F (L2.wipe σ vs)
  | [], _ => h
  | v :: vs, k => Fix.set (Fix.wipe h fun w m => k w (List.mem_cons_of_mem _ m)) (k v List.mem_cons_self)
structure VTs (X : Cx) (G : Gh) (F : Fx) (ifs : List Expr) (tt : TT) (t : TB) : Prop where
  pt : PTs X ifs tt
  lk : LkT X.K G F tt t
section
variable {X : Cx} {G : Gh} {F : Fx} {K : Fr} {a b c e tg it elt : Expr} {ifs es elts : List Expr} {ta tb tc te : TE} {tA : TA} {tt tu : TT} {sa sb sc se : TV} {ss su : TB} {wi : TI} {ui : TVI} {g : TG} {tG : TVG} {pos p : Pos}
def sYes : TB := fun env Q => Q true env
theorem ts_nil : VTs X G F [] tYes sYes := ⟨pts_nil, fun S Γ env σ H Q P fx k x h fin => fin S true env H Sub.refl k x h⟩
theorem ts_one (h : VT X G F c tt ss) : VTs X G F [c] tt ss := ⟨pts_one h.pt, h.lk⟩
theorem wipe_get (σ : L2.St) (j : Nat) : ∀ vs : List Nat, (L2.wipe σ vs)[j]? = if j ∈ vs then σ[j]?.map (fun _ => none) else σ[j]?
  | [] => by simp [L2.wipe]
  | v :: vs => by
    show ((L2.wipe σ vs).set v none)[j]? = _
    by_cases e : v = j
    · subst e
      rw [if_pos List.mem_cons_self]
      by_cases hl : v < σ.length
      · rw [List.getElem?_set_self (by rw [wipe_length]; exact hl), List.getElem?_eq_getElem hl]; rfl
      · rw [List.getElem?_eq_none (by rw [List.length_set, wipe_length]; omega), List.getElem?_eq_none (by omega)]; rfl
    · rw [List.getElem?_set_ne e, wipe_get σ j vs]
      by_cases m : j ∈ vs
      · rw [if_pos m, if_pos (List.mem_cons_of_mem _ m)]
      · rw [if_neg m, if_neg (fun z => (List.mem_cons.mp z).elim (fun q => e q.symm) m)]
theorem wipe_same {σ σ2 : L2.St} {vs tl : List Nat} (hl : ∀ j ∈ tl, j ∈ vs) (h : ∀ j : Nat, j ∉ tl → σ2[j]? = (L2.wipe σ vs)[j]?) (hlen : σ2.length = (L2.wipe σ vs).length) : L2.wipe σ2 vs = L2.wipe σ vs := by
  apply List.ext_getElem?
  intro j
  rw [wipe_get, wipe_get]
  by_cases m : j ∈ vs
  · rw [if_pos m, if_pos m]
    have e : σ2.length = σ.length := by rw [hlen, wipe_length]
    by_cases hl : j < σ.length
    · rw [List.getElem?_eq_getElem hl, List.getElem?_eq_getElem (by omega)]; rfl
    · rw [List.getElem?_eq_none (by omega), List.getElem?_eq_none (by omega)]
  · rw [if_neg m, if_neg m, h j (fun z => m (hl j z)), wipe_get, if_neg m]
def sLc (u : TVI) (tG : TVG) (ss : TB) (se : TV) (vs : List Nat) : TV := fun env Q => u env fun n ys e => ∃ I : Nat → List D → En → Prop, I 0 [] (wipeE e vs) ∧
  (∀ m acc e, m < n → I m acc e → tG (ys m) e fun e2 => ss e2 fun b e3 => match b with
    | true => se e3 fun r e4 => r.asT fun o => acc.length < sizeLine ∧ I (m + 1) (acc ++ [frz o]) (wipeE e4 vs)
    | false => I (m + 1) acc (wipeE e3 vs)) ∧
  ∀ acc e, I n acc e → Q (.t (.lst (acc.map .st))) e
theorem lk_lc {vs tl : List Nat} (hv : ∀ v ∈ vs, v ∉ F.ios) (htl : ∀ j ∈ tl, j ∈ vs) (hu : LkI K G F wi ui) (hg : LkG K G F g tG tl) (hs : LkT K G F tt ss) (he : Lk K G F te se) : Lk K G F (tLc wi g tt te vs) (sLc ui tG ss se vs) := by
  intro S Γ env σ H Q P fx k x h fin
  refine hu S Γ env σ H _ _ fx k x h fun S1 n ys e1 J H1 s1 k1 x1 it q D hD => ?_
  obtain ⟨Gd, Y, w, hG, hY⟩ := it
  obtain ⟨I, i0, istep, iend⟩ := q
  have wl : ∀ σ, (L2.wipe σ vs).length = σ.length := fun σ => wipe_length σ vs
  have hop : ∀ {Γ : Cl} {c : Cl} {Δ Δ' : Cl}, Δ.Perm (c ++ Δ') → (Γ ++ Δ).Perm (c ++ (Γ ++ Δ')) := fun {Γ c Δ Δ'} p => by
    refine (p.append_left Γ).trans ?_
    rw [← List.append_assoc, ← List.append_assoc]
    exact List.perm_append_comm.append_right _
  refine lc_it w (vs := vs) (σ := σ) (fun m H' => ∃ S' acc env', Sub S1 S' ∧ EnOk (L2.wipe σ vs) env' ∧ offL env' vs ∧ VSt K G S' ((.ref D, .lst (acc.map .st)) :: (Γ ++ cl (L2.wipe σ vs) env')) H' ∧ I m acc env') ?_ (fun m H' _ ⟨S', acc, env', s', _, _, y, _⟩ => hG H' S' s' y.sub) (fun m v H' H2 hm ⟨S', acc, env', s', k', of', y, im⟩ hy => ?_) (fun H' ⟨S', acc, env', s', k', of', y, im⟩ => ?_)
  · obtain ⟨⟨c, pc⟩, k2⟩ := k1.wipe vs
    have y := x1.allocF (vs := []) (ds := []) .nil hD
    refine ⟨S1, [], wipeE e1 vs, Sub.refl, k2, wipeE_off e1 vs, ?_, i0⟩
    have pp : ((V.ref D, OD.lst []) :: (Γ ++ cl σ e1)).Perm (c ++ ((V.ref D, OD.lst []) :: (Γ ++ cl (L2.wipe σ vs) (wipeE e1 vs)))) :=
      (((hop pc).cons _).trans List.perm_middle.symm)
    exact (VSt.perm y pp).dropL
  · obtain ⟨S2, s2, y2, r2⟩ := hY G _ m H' v H2 S' hm s' y hy
    have fxw := fx.wipe hv
    refine hg S2 ((V.ref D, OD.lst (acc.map .st)) :: Γ) env' (L2.wipe σ vs) H2 (ys m) v _ _ fxw k' y2 r2 (istep m acc env' hm im) fun env2 σ2 l2 o2 fx2 k2 x2 q2 => ?_
    have ew : L2.wipe σ2 vs = L2.wipe σ vs := wipe_same htl o2 l2
    refine ⟨ew, ?_⟩
    refine hs S2 _ env2 σ2 H2 _ _ fx2 k2 x2 q2 fun S3 b env3 H3 s3 k3 x3 q3 => ?_
    have nxt : ∀ {S4 : Hp} {env4 : En} {H4 : Hp} {acc' : List VL.D}, Sub S3 S4 → EnOk σ2 env4 → VSt K G S4 ((V.ref D, OD.lst (acc'.map .st)) :: (Γ ++ cl σ2 env4)) H4 → I (m + 1) acc' (wipeE env4 vs) →
        ∃ S' acc env', Sub S1 S' ∧ EnOk (L2.wipe σ vs) env' ∧ offL env' vs ∧ VSt K G S' ((V.ref D, OD.lst (acc.map .st)) :: (Γ ++ cl (L2.wipe σ vs) env')) H4 ∧ I (m + 1) acc env' := fun {S4 env4 H4 acc'} s4 k4 y4 i4 => by
      obtain ⟨⟨c, pc⟩, k5⟩ := k4.wipe vs
      rw [ew] at pc k5
      refine ⟨S4, acc', wipeE env4 vs, s'.trans (s2.trans (s3.trans s4)), k5, wipeE_off env4 vs, ?_, i4⟩
      exact (y4.perm (((hop pc).cons _).trans List.perm_middle.symm)).dropL
    cases b with
    | false => exact iteF (nxt Sub.refl k3 x3 q3)
    | true =>
      refine iteT (he S3 _ env3 σ2 H3 _ _ fx2 k3 x3 q3 fun S4 r env4 u H4 s4 k4 x4 b4 q4 => ?_)
      obtain ⟨o, e, hlen, i4⟩ := Rv.asT_inv q4
      subst e
      obtain ⟨S5, s5, x5⟩ := VSt.freeze x4
      have x6 : VSt K G S5 ((V.ref D, OD.lst (acc.map .st)) :: (u, .st (frz o)) :: (Γ ++ cl σ2 env4)) H4 := x5.perm (List.Perm.swap _ _ _)
      obtain ⟨p', vs', ep, hp, hl⟩ := x6.lstAt
      cases ep
      refine ⟨vs', hp, by rw [hl, List.length_map]; exact hlen, ?_⟩
      have x7 := x5.appendC hp
      refine nxt (s4.trans s5) k4 ?_ i4
      rw [List.map_append]
      exact x7
  · obtain ⟨k2, e2⟩ := EnOk.unwipe k' of'
    have y' : VSt K G S' ((V.ref D, OD.lst (acc.map .st)) :: (Γ ++ cl σ env')) H' := by rw [e2]; exact y
    exact fin S' (.t (.lst (acc.map .st))) env' (.ref D) H' (s1.trans s') k2 y' trivial (iend acc env' im)
theorem v_lc {vs tl : List Nat} {scope : Scope} {own : List (Str × Nat)} (hc : X.calm = true) (hN : X.N.Nodup) (hvs : own.map (·.2) = vs) (hv : ∀ v ∈ vs, v ∉ F.ios) (htl : ∀ j ∈ tl, j ∈ vs) (hi : VI X G F tg it wi ui) (ok : BlkOk X.N X.env.scope scope own)
    (hg : ∀ (s : Shared) (H : Hp) (C : Addr) (cl : List (Str × Addr)) (fp : List Addr), VG (X.blk s H scope (compEnvC scope cl C X.env) fp) G F tg g tG tl)
    (ht : ∀ (s : Shared) (H : Hp) (C : Addr) (cl : List (Str × Addr)) (fp : List Addr), VTs (X.blk s H scope (compEnvC scope cl C X.env) fp) G F ifs tt ss)
    (he : ∀ (s : Shared) (H : Hp) (C : Addr) (cl : List (Str × Addr)) (fp : List Addr), VE (X.blk s H scope (compEnvC scope cl C X.env) fp) G F elt te se) (hs : ∀ x, foldedSetIterable it X.env x = pure x := by intro _; rfl) :
    VE X G F (.ListComp elt [⟨tg, it, ifs, 0⟩] scope pos) (tLc wi g tt te vs) (sLc ui tG ss se vs) := by
  subst hvs
  exact ⟨pe_lc hc hN hi.pi ok (fun s H C cl fp => (hg s H C cl fp).pg) (fun s H C cl fp => (ht s H C cl fp).pt) (fun s H C cl fp => (he s H C cl fp).pe) hs,
    lk_lc hv htl hi.lk (hg X.s_0 (fun _ => none) 0 [] []).lk (ht X.s_0 (fun _ => none) 0 [] []).lk (he X.s_0 (fun _ => none) 0 [] []).lk⟩
theorem s_setLc {i : Nat} {y : Str} {py spos : Pos} {vs tl : List Nat} {scope : Scope} {own : List (Str × Nat)} (hio : i ∉ F.ios) (hc : X.calm = true) (hN : X.N.Nodup) (hy : X.N[i]? = some y) (hyl : X.env.scope.names.lookup y = some .local)
    (hsw : swapsWith (.ListComp elt [⟨tg, it, ifs, 0⟩] scope pos) (some (.Name y py)) spos.line X.env = pure true) (hvs : own.map (·.2) = vs) (hv : ∀ v ∈ vs, v ∉ F.ios) (htl : ∀ j ∈ tl, j ∈ vs) (hi : VI X G F tg it wi ui) (ok : BlkOk X.N X.env.scope scope own)
    (hg : ∀ (s : Shared) (H : Hp) (C : Addr) (cl : List (Str × Addr)) (fp : List Addr), VG (X.blk s H scope (compEnvC scope cl C X.env) fp) G F tg g tG tl)
    (ht : ∀ (s : Shared) (H : Hp) (C : Addr) (cl : List (Str × Addr)) (fp : List Addr), VTs (X.blk s H scope (compEnvC scope cl C X.env) fp) G F ifs tt ss)
    (he : ∀ (s : Shared) (H : Hp) (C : Addr) (cl : List (Str × Addr)) (fp : List Addr), VE (X.blk s H scope (compEnvC scope cl C X.env) fp) G F elt te se) (hs : ∀ x, foldedSetIterable it X.env x = pure x := by intro _; rfl) :
    VS X G F (.Assign [.Name y py] (.ListComp elt [⟨tg, it, ifs, 0⟩] scope pos) spos) (tAsg (tLc wi g tt te vs) (gName i)) (sSet i (sLc ui tG ss se vs)) := by
  subst hvs
  exact ⟨ps_setLc hc hN hy hyl hsw hi.pi ok (fun s H C cl fp => (hg s H C cl fp).pg) (fun s H C cl fp => (ht s H C cl fp).pt) (fun s H C cl fp => (he s H C cl fp).pe) hs,
    lk_set hio (lk_lc hv htl hi.lk (hg X.s_0 (fun _ => none) 0 [] []).lk (ht X.s_0 (fun _ => none) 0 [] []).lk (he X.s_0 (fun _ => none) 0 [] []).lk)⟩
end
end VL
-- V10
set_option maxHeartbeats 1000000
namespace VL
open PySem PySem.Spec PyProof.Rows L2
def Ok (P : Program) (w : World) (K : Fr) (mg : Str → Option Value) (base : Heap) (x : Str) (ps : List Str) (k : Nat) (C : Ctr) : Prop :=
  ∃ fd, FnOk P w K mg base (L2N.CX P w) k (He.ga K x) fd ps (VSp K C) ∧ mg x = some (.ref (He.ga K x)) ∧ PySem.W.keepIn K (.ref (He.ga K x)) = true ∧ Binds K fd ps []
def Dfn (K : Fr) (mg : Str → Option Value) (x : Str) (st : Stmt) (dvs : List V) (kws : List (Str × V)) : Prop := (∃ fd, FunD K x x (defArgs st) (defBody st) (defScope st) dvs kws (He.ga K x) fd) ∧ mg x = some (.ref (He.ga K x))
section
variable {X : Cx} {G : Gh} {F : Fx} {e : Expr} {es : List Expr} {tA : TA} {sL : TVL} {pos : Pos} {W : WX} {E : XQ} {C : Ctr}
theorem v_callO {x : Str} {p : Pos} {k : Nat} {ps : List Str} (wx : Wx X G F W E) (O : Ok X.prog X.w X.K X.mg X.base x ps k C) (hr : Room k X.A) (hg : Gl X x) (ha : VA X G F (e :: es) tA sL)
    (hdb : (x == ("__debug__" : Str)) = false := by decide) (he : starEach (e :: es) X.env = (false, eval e X.env) :: starEach es X.env := by rfl) (hpl : (backTo pos (starEach es X.env)).any (·.1) = false := by rfl) :
    VE X G F (.Call (.Name x p) (e :: es) [] pos) (tCallS (VSp X.K C) (WE W) tA) (sCall C E sL) := by
  obtain ⟨fd, h1, h2, h3, h4⟩ := O
  exact v_call wx h1 hr hg h2 h3 h4 ha hdb he hpl
end
section
variable {P : Program} {w : World} {K : Fr} {mg : Str → Option Value} {base : Heap}
theorem ok_of {x : Str} {st : Stmt} {kws : List (Str × V)} {N ps : List Str} {k : Nat} {C : Ctr} (ios : List Nat) (T : Dfn K mg x st [] kws) (Sc : FnScope N ps (defScope st))
    (hbd : ∀ fd, FunD K x x (defArgs st) (defBody st) (defScope st) [] kws (He.ga K x) fd → Binds K fd ps []) (len : ∀ os Q E, C os Q E → os.length = ps.length)
    (hbody : ∀ (cdv : Value) (A : Around) (outer : List Env) (s : Shared) (H : Hp) (G : Gh) (s0 : L2.St) (E : XK) (os : List OD) (Q1 : OD → List OD → Prop) (E1 : Addr → List (Str × D) → List OD → Prop), Room k (A.deeper (envOfC x (defScope st) s.heap.objs.size (He.ga K x) cdv)) → C os Q1 E1 →
      Wx (cxOf (L2N.CX P w) P w K mg base N x (defScope st) (He.ga K x) cdv A outer s H E) G ⟨ios, s0⟩ (fun cls d _ H => E cls d H) (exq ios os E1) →
      ∃ ts t, VB (cxOf (L2N.CX P w) P w K mg base N x (defScope st) (He.ga K x) cdv A outer s H E) G ⟨ios, s0⟩ (defBody st) ts t ∧ t (ends ios os Q1) (en0 N os)) : Ok P w K mg base x ps (k + 1) C := by
  obtain ⟨⟨fd, Fd⟩, hm⟩ := T
  exact ⟨fd, def_of ios Fd Sc len hbody, hm, Fd.kp, hbd fd Fd⟩
theorem Wx.blk {X : Cx} {s : Shared} {H : Hp} {scope : Scope} {cenv : Env} {fp : List Addr} {G : Gh} {F : Fx} (hc : X.calm = true) : Wx (X.blk s H scope cenv fp) G F (fun _ _ _ _ => False) (fun _ _ _ => False) :=
  ⟨fun u s' x => by
    obtain ⟨a, B, sI, pins, σ, H, cls, d, _, _, _, _, _, _, _, _, w⟩ := x
    exact w, PassesOwn.never, hc, fun _ _ _ _ _ _ _ _ _ _ _ _ _ q => q⟩
end
end VL
-- V11
set_option maxHeartbeats 1000000
namespace VL
open PySem PySem.Spec PyProof.Rows L2
mutual
def D.py : D → Option PyData
  | .non => some .none
  | .bl b => some (.bool b)
  | .int i => some (.int i)
  | .str x => some (.str x)
  | .tup ds => match pyL ds with
    | some l => some (.tuple l)
    | none => none
  | .lst ds => match pyL ds with
    | some l => some (.list l)
    | none => none
  | .scr _ => none
  | .cls _ => none
  | .kls _ => none
  | .ins _ _ => none
def pyL : List D → Option (List PyData)
  | [] => some []
  | d :: r => match D.py d, pyL r with
    | some p, some l => some (p :: l)
    | _, _ => none
end
mutual
theorem Rep.dp {K : Fr} {S : Hp} : ∀ {v : V} {d : D} {p : PyData}, Rep K S v d → d.py = some p → Dp K S v p
  | _, .non, _, .non, e => by cases e; exact .non
  | _, .bl _, _, .bl, e => by cases e; exact .bl _
  | _, .int _, _, .int, e => by cases e; exact .int _
  | _, .str _, _, .str, e => by cases e; exact .str _
  | _, .tup ds, _, .tup h r, e => by
    have e' : (match pyL ds with
      | some l => some (PyData.tuple l)
      | none => none) = some _ := e
    split at e'
    · rename_i l hl
      cases e'
      exact .tup h.sq (RepL.dp r hl)
    · cases e'
  | _, .lst ds, _, .lst h r, e => by
    have e' : (match pyL ds with
      | some l => some (PyData.list l)
      | none => none) = some _ := e
    split at e'
    · rename_i l hl
      cases e'
      exact .lst (SqL.of h) (RepL.dp r hl)
    · cases e'
theorem RepL.dp {K : Fr} {S : Hp} : ∀ {vs : List V} {ds : List D} {l : List PyData}, RepL K S vs ds → pyL ds = some l → DpAll K S vs l
  | _, [], _, .nil, e => by cases e; exact .nil
  | _, d :: r, _, .cons h q, e => by
    have e' : (match D.py d, pyL r with
      | some p, some l => some (p :: l)
      | _, _ => none) = some _ := e
    split at e'
    · rename_i p l h1 h2
      cases e'
      exact .cons (Rep.dp h h1) (RepL.dp q h2)
    · cases e'
end
def gEqA : G2 := fun a b Q => match a, b with
  | .int i, .int j => Q (.bl (decide (i = j)))
  | .str i, .str j => Q (.bl (decide (i = j)))
  | .bl i, .bl j => Q (.bl (decide (i = j)))
  | a, b => ∃ p q, a.py = some p ∧ b.py = some q ∧ SeqAt.shaped p = true ∧ SeqAt.shaped q = true ∧ Q (.bl (PyData.eqv p q))
def gNeA : G2 := fun a b Q => gEqA a b fun d => match d with
  | .bl k => Q (.bl (!k))
  | _ => False
def rEqA (K : Fr) : R2 := fun x y H Q => rEq x y H Q ∨ rEqD K x y H Q
def rNeA (K : Fr) : R2 := fun x y H Q => rNe x y H Q ∨ rNeD K x y H Q
theorem gEqA_cases {a b : D} {Q : D → Prop} (h : gEqA a b Q) : gEq a b Q ∨ ∃ p q, a.py = some p ∧ b.py = some q ∧ SeqAt.shaped p = true ∧ SeqAt.shaped q = true ∧ Q (.bl (PyData.eqv p q)) := by
  unfold gEqA at h
  split at h
  · exact .inl h
  · exact .inl h
  · exact .inl h
  · exact .inr h
theorem op2_eqA {K : Fr} : Op2 K (rEqA K) gEqA := by
  intro x y H d1 d2 Q P r1 r2 h fin
  rcases gEqA_cases h with h | ⟨p, q, e1, e2, s1, s2, h⟩
  · exact .inl (op2_eq x y H d1 d2 Q P r1 r2 h fin)
  · exact .inr ⟨p, q, r1.dp e1, r2.dp e2, s1, s2, fin _ _ .bl h⟩
theorem gNe_of {a b : D} {Q : D → Prop} (h : gEq a b fun d => match d with
  | .bl k => Q (.bl (!k))
  | _ => False) : gNe a b Q := by
  cases a <;> cases b <;> first | exact h.elim | exact h
theorem op2_neA {K : Fr} : Op2 K (rNeA K) gNeA := by
  intro x y H d1 d2 Q P r1 r2 h fin
  rcases gEqA_cases h with h | ⟨p, q, e1, e2, s1, s2, h⟩
  · exact .inl (op2_ne x y H d1 d2 Q P r1 r2 (gNe_of h) fin)
  · exact .inr ⟨p, q, r1.dp e1, r2.dp e2, s1, s2, fin _ _ .bl h⟩
section
variable {X : Cx} {G : Gh} {F : Fx} {K : Fr} {a b c e : Expr} {es rest : List Expr} {ta tb tc te : TE} {tA : TA} {sa sb sc : TV} {sL : TVL} {pos : Pos}
theorem v_eq (hu : X.A.units + 64 < cLine) (ha : VE X G F a ta sa) (hb : VE X G F b tb sb) (hm : behindInMarks .Eq b = false := by rfl) : VE X G F (.Compare a [.Eq] [b] pos) (tOp (rEqA X.K) ta tb) (sOp gEqA sa sb) :=
  v_cmp (op_eq.or (op_eqD hu)) op2_eqA ha hb hm
theorem v_ne (hu : X.A.units + 64 < cLine) (ha : VE X G F a ta sa) (hb : VE X G F b tb sb) (hm : behindInMarks .NotEq b = false := by rfl) : VE X G F (.Compare a [.NotEq] [b] pos) (tOp (rNeA X.K) ta tb) (sOp gNeA sa sb) :=
  v_cmp (op_ne.or (op_neD hu)) op2_neA ha hb hm
theorem t_eq (hu : X.A.units + 64 < cLine) (ha : VE X G F a ta sa) (hb : VE X G F b tb sb) (hm : behindInMarks .Eq b = false := by rfl) : VT X G F (.Compare a [.Eq] [b] pos) (tTest (tOp (rEqA X.K) ta tb)) (sTst (sOp gEqA sa sb)) :=
  t_cmp (op_eq.or (op_eqD hu)) op2_eqA ha hb hm
theorem t_ne (hu : X.A.units + 64 < cLine) (ha : VE X G F a ta sa) (hb : VE X G F b tb sb) (hm : behindInMarks .NotEq b = false := by rfl) : VT X G F (.Compare a [.NotEq] [b] pos) (tTest (tOp (rNeA X.K) ta tb)) (sTst (sOp gNeA sa sb)) :=
  t_cmp (op_ne.or (op_neD hu)) op2_neA ha hb hm
def gAddA (r1 r2 : Rv) (e : En) (Q : Rv → Prop) : Prop := match r1, r2 with
  | .t (.st (.int i)), .t (.st (.int j)) => Q (.t (.st (.int (i + j))))
  | r1, r2 => gCat r1 r2 e Q
theorem gAddA_cases {r1 r2 : Rv} {e : En} {Q : Rv → Prop} (h : gAddA r1 r2 e Q) : (∃ i j, r1 = .t (.st (.int i)) ∧ r2 = .t (.st (.int j)) ∧ Q (.t (.st (.int (i + j))))) ∨ gCat r1 r2 e Q := by
  unfold gAddA at h
  split at h
  · exact .inl ⟨_, _, rfl, rfl, h⟩
  · exact .inr h
theorem op2_addA : Op2F K (fun x y H Q => r2Add x y H Q ∨ rCat x y H Q) gAddA := by
  intro G S Γ env σ H Q r1 r2 v1 v2 P k x b1 b2 h fin
  rcases gAddA_cases h with ⟨i, j, e1, e2, q⟩ | h
  · subst e1 e2
    have z2 := VSt.rep x
    have z1 := VSt.rep (VSt.drop x)
    cases z1; cases z2
    exact .inl ⟨i, j, rfl, rfl, fin S _ _ H Sub.refl ((x.drop.drop).addSt .int) q⟩
  · exact .inr (op2_cat G S Γ env σ H Q r1 r2 v1 v2 P k x b1 b2 h fin)
theorem v_addA (ha : VE X G F a ta sa) (hb : VE X G F b tb sb) : VE X G F (.BinOp a .Add b pos) (tOp (fun x y H Q => r2Add x y H Q ∨ rCat x y H Q) ta tb) (sOp2 gAddA sa sb) := ⟨pe_op (op_add.or op_cat) ha.pe hb.pe, lk_op2 op2_addA ha.lk hb.lk⟩
def gMulA (r1 r2 : Rv) (e : En) (Q : Rv → Prop) : Prop := match r1, r2 with
  | .t (.st (.int i)), .t (.st (.int j)) => CMulW i j ∧ Q (.t (.st (.int (i * j))))
  | r1, r2 => gRep r1 r2 e Q
theorem gMulA_cases {r1 r2 : Rv} {e : En} {Q : Rv → Prop} (h : gMulA r1 r2 e Q) : (∃ i j, r1 = .t (.st (.int i)) ∧ r2 = .t (.st (.int j)) ∧ CMulW i j ∧ Q (.t (.st (.int (i * j))))) ∨ gRep r1 r2 e Q := by
  unfold gMulA at h
  split at h
  · exact .inl ⟨_, _, rfl, rfl, h.1, h.2⟩
  · exact .inr h
theorem op2_mulA : Op2F K (fun x y H Q => r2Mul x y H Q ∨ rRep x y H Q) gMulA := by
  intro G S Γ env σ H Q r1 r2 v1 v2 P k x b1 b2 h fin
  rcases gMulA_cases h with ⟨i, j, e1, e2, c, q⟩ | h
  · subst e1 e2
    have z2 := VSt.rep x
    have z1 := VSt.rep (VSt.drop x)
    cases z1; cases z2
    exact .inl ⟨i, j, rfl, rfl, c, fin S _ _ H Sub.refl ((x.drop.drop).addSt .int) q⟩
  · exact .inr (op2_rep G S Γ env σ H Q r1 r2 v1 v2 P k x b1 b2 h fin)
theorem v_mulA (ha : VE X G F a ta sa) (hb : VE X G F b tb sb) : VE X G F (.BinOp a .Mult b pos) (tOp (fun x y H Q => r2Mul x y H Q ∨ rRep x y H Q) ta tb) (sOp2 gMulA sa sb) := ⟨pe_op (op_mulW.or op_rep) ha.pe hb.pe, lk_op2 op2_mulA ha.lk hb.lk⟩
def sNeg (s : TV) : TV := fun env Q => s env fun r e => r.asI fun i => Q (.t (.st (.int (-i)))) e
theorem v_neg (ha : VE X G F a ta sa) : VE X G F (.UnaryOp .USub a pos) (tUn (rU fun i => .int (-i)) ta) (sNeg sa) :=
  ⟨pe_un un_neg ha.pe, fun S Γ env σ H Q P fx k x hh fin => ha.lk S Γ env σ H _ _ fx k x hh fun S1 r e1 v H1 s1 k1 x1 b1 q => by
    obtain ⟨i, e, q⟩ := Rv.asI_inv q
    subst e
    have z := VSt.rep x1
    cases z
    exact ⟨i, rfl, fin S1 (.t (.st (.int (-i)))) e1 _ H1 s1 k1 (x1.drop.addSt .int) trivial q⟩⟩
abbrev TVO := En → (Option Int → En → Prop) → Prop
def LkO (K : Fr) (G : Gh) (F : Fx) (to : TO) (t : TVO) : Prop := ∀ (S : Hp) (Γ : Cl) (env : En) (σ : L2.St) (H : Hp) (Q : Option Int → En → Prop) (P : Option Int → Hp → Prop), Fix F σ → EnOk σ env → VSt K G S (Γ ++ cl σ env) H → t env Q →
  (∀ S' o env' H', Sub S S' → EnOk σ env' → VSt K G S' (Γ ++ cl σ env') H' → Q o env' → P o H') → to σ H P
structure VO (X : Cx) (G : Gh) (F : Fx) (e : Option Expr) (to : TO) (t : TVO) : Prop where
  po : PO X e to
  lk : LkO X.K G F to t
def sNoP : TVO := fun env Q => Q none env
def sPart (s : TV) : TVO := fun env Q => s env fun r e => r.asI fun i => Q (some i) e
theorem o_none : VO X G F none tNoPart sNoP := ⟨po_none, fun S Γ env σ H Q P fx k x h fin => fin S none env H Sub.refl k x h⟩
theorem o_some (h : VE X G F e te sa) : VO X G F (some e) (tPart te) (sPart sa) := ⟨po_some h.pe, fun S Γ env σ H Q P fx k x hh fin => h.lk S Γ env σ H _ _ fx k x hh fun S1 r e1 v H1 s1 k1 x1 b1 q => by
    obtain ⟨i, e, q⟩ := Rv.asI_inv q
    subst e
    have z := VSt.rep x1
    cases z
    exact ⟨i, rfl, fin S1 _ e1 H1 s1 k1 x1.drop q⟩⟩
def cutD (xs : List D) (lo hi : Option Int) : List D := (xs.drop (HT.sIx xs.length 0 lo)).take (HT.sIx xs.length xs.length hi - HT.sIx xs.length 0 lo)
theorem RepL.cut {S : Hp} {vs : List V} {ds : List D} (r : RepL K S vs ds) (lo hi : Option Int) : RepL K S (cutV vs lo hi) (cutD ds lo hi) := by
  unfold cutV cutD
  rw [r.length]
  exact (r.drop _).take _
theorem cutD_all {ds : List D} {lo hi : Option Int} (h1 : HT.sIx ds.length 0 lo = 0) (h2 : HT.sIx ds.length ds.length hi = ds.length) : cutD ds lo hi = ds := by
  unfold cutD
  rw [h1, h2]
  simp
def sSl (s : TV) (tl th : TVO) : TV := fun env Q => s env fun r e1 => tl e1 fun lo e2 => th e2 fun hi e3 => match itm e3 r with
  | some (false, ds) => Q (.t (.lst ((cutD ds lo hi).map .st))) e3
  | some (true, ds) => Q (.t (.st (.tup (cutD ds lo hi)))) e3
  | none => False
def rSlS (K : Fr) : V → Option Int → Option Int → Hp → VK → Prop := fun x lo hi H Q => rSlL K x lo hi H Q ∨ rSlA K x lo hi H Q
theorem v_sl {lo hi : Option Expr} {tl th : TO} {sl sh : TVO} {p2 : Pos} (he : VE X G F e te sa) (hl : VO X G F lo tl sl) (hu : VO X G F hi th sh) : VE X G F (.Subscript e (.Slice lo hi none p2) pos) (L2.tSl (rSlS X.K) te tl th) (sSl sa sl sh) :=
  ⟨pe_slice (sl_list.or sl_tupA) he.pe hl.po hu.po, fun S Γ env σ H Q P fx k x hh fin => he.lk S Γ env σ H _ _ fx k x hh fun S1 r e1 v H1 s1 k1 x1 b1 q1 => by
    have x1' : VSt X.K G S1 ((rcl v r ++ Γ) ++ cl σ e1) H1 := by rw [List.append_assoc]; exact x1
    refine hl.lk S1 (rcl v r ++ Γ) e1 σ H1 _ _ fx k1 x1' q1 fun S2 l e2 H2 s2 k2 x2 q2 => ?_
    refine hu.lk S2 (rcl v r ++ Γ) e2 σ H2 _ _ fx k2 x2 q2 fun S3 h e3 H3 s3 k3 x3 q3 => ?_
    rw [List.append_assoc] at x3
    have q3' : (match itm e3 r with
      | some (false, ds) => Q (.t (.lst ((cutD ds l h).map .st))) e3
      | some (true, ds) => Q (.t (.st (.tup (cutD ds l h)))) e3
      | none => False) := q3
    split at q3'
    · rename_i ds hi
      obtain ⟨a, vs, ea, m1, _, rr⟩ := itm_rep k3 x3 b1 hi
      subst ea
      exact .inl ⟨a, vs, rfl, m1 rfl, fun p hp => fin S3 (.t (.lst ((cutD ds l h).map .st))) e3 _ _ (s1.trans (s2.trans s3)) k3 (x3.dropL.allocF (rr.cut l h) hp) trivial q3'⟩
    · rename_i ds hi
      obtain ⟨a, vs, ea, _, m2, rr⟩ := itm_rep k3 x3 b1 hi
      subst ea
      have hl := rr.length
      refine .inr ⟨a, vs, rfl, m2 rfl, fun hw => ?_, fun hw p hp => ?_⟩
      · rw [hl] at hw
        rw [cutD_all hw.1 hw.2] at q3'
        exact fin S3 (.t (.st (.tup ds))) e3 _ H3 (s1.trans (s2.trans s3)) k3 (x3.dropL.addSt (itm_tup k3 x3 b1 hi)) trivial q3'
      · have x4 := x3.dropL
        have s4 : Sub S3 (upd S3 p (.tup (cutV vs l h))) := Sub.upd (x4.freshS hp)
        exact fin _ (.t (.st (.tup (cutD ds l h)))) e3 _ _ (s1.trans (s2.trans (s3.trans s4))) k3 ((x4.alloc hp).addSt (.tup (.inl upd_same) ((rr.cut l h).mono s4))) trivial q3'
    · exact q3'.elim⟩
def D.ty : D → Option String
  | .non => some "NoneType"
  | .bl _ => some "bool"
  | .int _ => some "int"
  | .str _ => some "str"
  | .tup _ => some "tuple"
  | .lst _ => some "list"
  | _ => none
theorem ty_rep {S : Hp} {v : V} {d : D} {T : String} (r : Rep K S v d) (h : d.ty = some T) : TyX K S v (.type T) := by
  cases r <;> cases h <;> first | exact .base .non | exact .base (.bl _) | exact .base (.int _) | exact .base (.str _) | skip
  · rename_i ht hr
    rcases ht with ht | ⟨o, its, n, e, c, _⟩
    · exact .base (.tup ht)
    · exact .kTuple e c
  · rename_i ht hr
    exact .base (.lst ht)
def gIsi : GL := fun ds Q => match ds with
  | [d, .cls n] => ∃ T b, d.ty = some T ∧ kitB T n = some b ∧ Q (.bl b)
  | _ => False
theorem cb_isi : CbS K (rIsi K) gIsi := by
  intro vs ds H Q P r h fin
  match ds, h with
  | [d, .cls n], ⟨T, b, e1, e2, h⟩ =>
    cases r with
    | cons r1 r2 => cases r2 with
      | cons r2 r3 =>
        cases r3; cases r2
        exact ⟨_, _, _, _, b, rfl, .ty n, ty_rep r1 e1, kit_ty e2, fin _ _ .bl h⟩
theorem v_ty {x : Str} {n : String} (hg : Gl X x) (hm : X.mg x = none) (hv : bootBuiltins x = some (.type n)) (hn : x ≠ "__name__" := by decide) (hd : (x == ("__debug__" : Str)) = false := by decide) : VE X G F (.Name x pos) (tC (.ty n)) (sD (.cls n)) := ⟨pe_bltn hg hm hv rfl hn hd, lk_c fun _ => .cls⟩
end
end VL
-- V12
set_option maxHeartbeats 2000000
namespace VL
open PySem PySem.Spec PyProof.Rows L2
open PySem.Sem (wp)
open AutoSeq1 (wpAny_loadPart')
theorem meets_enumB1 {v : Value} {o : Obj} {H : Heap → Prop} (B : Begins v o H) :
    Meets (Builtin.«enumerate.__new__» ⟨[.type "enumerate", v], []⟩) (fun _ R s => H s.heap ∧
      R (.ok (.ret (.ref (s.heap.push o).objs.size))) { s with heap := (s.heap.push o).push { cls := .type "enumerate", data := .fields #[.none, .bool false, .ref s.heap.objs.size, rawInt 0, .none, .none] } }) :=
  .of_wp fun prog w A R s h => by
    obtain ⟨hp, g, d, tk, os⟩ := s; obtain ⟨h1, h⟩ := h
    have hsub := sub_enumerate
    have q1 : ∀ {A' : Around} {E : Value → Shared → Prop} {Q : Value → Shared → Prop}, Q (.ref hp.objs.size) ⟨hp.push o, g, d, tk, os⟩ → wpAny (model prog w) A' (pyIter v) Q E ⟨hp, g, d, tk, os⟩ :=
      fun q => B.iter prog w _ _ ⟨hp, g, d, tk, os⟩ _ h1 q
    wp_walk using q1
    refine wpAny_stack_any fun st => wpAny_pure ?_
    split
    · rename_i c _ _ _ _ _
      cases (c == Value.type "enumerate")
      · wp_walk using q1
        exact ⟨_, rfl, h⟩
      · wp_walk using q1
        exact ⟨_, rfl, h⟩
    · wp_walk using q1
      exact ⟨_, rfl, h⟩
section
variable {prog : Program} {w : World} {A : Around} {E : Value → Shared → Prop} {s : Shared}
theorem enum_begins1 {v : Value} {o : Obj} {H : Heap → Prop} {Q : Value → Shared → Prop} (B : Begins v o H) (h1 : H s.heap)
    (h : ∀ h', IsEnum h' (s.heap.objs.size + 1) s.heap.objs.size 0 .none → h'.get? s.heap.objs.size = some o → h'.objs.size = s.heap.objs.size + 2 →
      (∀ b o, s.heap.get? b = some o → h'.get? b = some o) → Q (.ref (s.heap.objs.size + 1)) { s with heap := h' }) :
    wpAny (model prog w) A (call (.type "enumerate") [v]) Q E s := by
  refine callType_new F.called_enumerate (by decide) (F.typeCall_enumerate_1 _) (F.newCall_enumerate_1 _) (fun obj => F.args_object_init_2 obj _) F.entry_enumerate_new
    (meets_enumB1 B) ⟨h1, ?_⟩
  have hz : (s.heap.push o).objs.size = s.heap.objs.size + 1 := Heap.size_push ..
  show _ ∧ _
  rw [hz]
  have he : IsEnum ((s.heap.push o).push { cls := .type "enumerate", data := .fields #[.none, .bool false, .ref s.heap.objs.size, rawInt 0, .none, .none] }) (s.heap.objs.size + 1) s.heap.objs.size 0 .none := by
    have := Heap.get?_push_size (s.heap.push o) (o := { cls := .type "enumerate", data := .fields #[.none, .bool false, .ref s.heap.objs.size, rawInt 0, .none, .none] }) rfl
    rw [hz] at this; exact this
  refine ⟨⟨_, he, rfl⟩, h _ he (Heap.get?_push_of_some _ (Heap.get?_push_size _ B.free)) (by rw [Heap.size_push, hz]) fun b o x => Heap.get?_push_of_some _ (Heap.get?_push_of_some _ x)⟩
theorem wpAny_pyNext_enum_endT {e it l : Addr} {i : Nat} {items : Array Value} {old : Value} {Q : Option Value → Shared → Prop} (hh : A.handled = none)
    (he : IsEnum s.heap e it i old) (hit : s.heap.IsTupleIter it l i) (hl : s.heap.IsTuple l items) (hx : items[i]? = none)
    (hQ : ∀ h', Heap.ExtBut it s.heap h' → Q none { s with heap := h' }) : wpAny (model prog w) A (pyNext (.ref e)) Q E s := by
  have hT : s.TypeIs (.ref e) "enumerate" := ⟨_, he, rfl⟩
  unfold pyNext
  refine wpAny_bind (wpAny_attempt (wpAny_callSpecial?_slot (name := Str.ofString "__next__") hT F.slot_enumerate_next
    (wpAny_call_entry F.slot_enumerate_next hT F.entry_enumerate_next ?_ (F.args_enumerate_next_1 _))))
  show wpAny _ _ (field (.ref e) 2 >>= _) _ _ _
  refine wpAny_bind (wpAny_field he rfl (x := .ref it) rfl ?_)
  refine wpAny_bind (wpAny_nextOf_tuple_end hh hit hl hx fun h' x he' hx' => ?_)
  obtain ⟨o, ho, hc⟩ := hx'
  refine wpAny_bind (wpAny_isInstance (T := "StopIteration") (b := true) ⟨o, ho, hc⟩ isSubtype_stop ?_)
  exact wpAny_pure (hQ _ he')
end
def IteT (K : PySem.W.Frag) (a : Addr) : It :=
  ⟨fun i H => ∃ (xs : List V) (x : V), SqT K H a xs ∧ xs[i]? = some x, fun i H v H' => ∃ T x, v = .ref T ∧ H T = none ∧ H' = upd H T (.tup [.int (i : Nat), x]) ∧ ∀ xs, SqT K H a xs → xs[i]? = some x, fun i H => ∃ xs : List V, SqT K H a xs ∧ xs.length ≤ i⟩
theorem turn_enumT {P : Program} {w : World} {K : PySem.W.Frag} {elts : List Expr} {kk : Nat} {tpos : Pos} (a e it : Addr) :
    Turn P w K (.Tuple elts kk tpos) (IteT K a) [e, it] e (fun i h => (∃ old, IsEnum h e it ((i : Nat) : Int) old) ∧ h.IsTupleIter it a i ∧ e ≠ it ∧ a ≠ it ∧ a ≠ e) where
  mem := by simp
  obj := fun i h st b hb => by
    obtain ⟨⟨old, he⟩, ⟨o, ho, hc, hd⟩, _⟩ := st
    have e' : b = e ∨ b = it := by simpa using hb
    rcases e' with z | z
    · rw [z]; exact ⟨_, he, fun v q => nomatch q⟩
    · rw [z]; exact ⟨o, ho, fun v q => by rw [hd] at q; cases q⟩
  keep := fun i h h' st k => let ⟨⟨old, he⟩, hi, hne⟩ := st; ⟨⟨old, k e (by simp) _ he⟩, hi.at fun o q => k it (by simp) o q, hne⟩
  item := by
    intro X hP hw hK hc i pins s σ H E I hf st hg
    subst hP hw hK
    obtain ⟨⟨old, he⟩, hit, hne, hai, hae⟩ := st
    obtain ⟨xs, x, hq, hx⟩ := hg
    obtain ⟨its, rv, p, hz⟩ := I.tuple hq
    obtain ⟨u, hu, ru⟩ := rv.get hx
    have hel : e < s.heap.objs.size := Heap.lt_size he
    have hil : it < s.heap.objs.size := by obtain ⟨_, q, _⟩ := hit; exact Heap.lt_size q
    have hef : e ∉ [it, a] := by
      intro z
      have z' : e = it ∨ e = a := by simpa using z
      rcases z' with z | z
      · exact hne z
      · exact hae z.symm
    have hii : i < its.toArray.size := by
      have : its[i]? = some u := hu
      simpa using (List.getElem?_eq_some_iff.mp this).1
    refine wpAny_pyNext_enum_itemC (Draws.tuple (show X.A.in1.handled = none from I.ok.hd hc) it a hai its.toArray) he ⟨hit, (show s.heap.IsTuple a its.toArray from p)⟩ hii hne hef fun u' h' tk hPx ho hst hT hsz hk => ?_
    have eu : u' = u := by
      have h1 : its.toArray[i]? = some u' := hPx
      have h2 : its[i]? = some u := hu
      rw [List.getElem?_toArray, h2] at h1
      cases h1; rfl
    subst eu
    refine ⟨_, rfl, wpAny_letOwnedTupleGo_enum (s := { s with heap := h', toks := tk + 1 }) ho fun h'' he' sb => ?_⟩
    have hT2 : h''.get? s.heap.objs.size = some { cls := .type "tuple", data := .seq #[.int i tk, u'] } := (sb.2 _ (Nat.ne_of_gt hel)).trans hT
    have new : ObjOk X.prog X.w (upd H s.heap.objs.size (.tup [.int (i : Nat), x])) h'' s.heap.objs.size (.tup [.int (i : Nat), x]) :=
      ⟨by show 2 ≤ sizeLine; decide, [.int i tk, u'], .cons ⟨_, rfl⟩ (.cons ru .nil), ⟨_, hT2, rfl, _, rfl⟩⟩
    have I1 : Inv X pins σ (upd H s.heap.objs.size (.tup [.int (i : Nat), x])) { s with heap := h'', toks := tk + 1 } :=
      I.turnedNew (ch := [e, it]) (fun b ob hb q => (sb.2 b (fun z => hb (by simp [z]))).trans (hk b ob (fun z => hb (by simp [z])) (fun z => hb (by simp [z])) q)) hf (Nat.le_refl _) new
    refine ⟨.ref s.heap.objs.size, _, I1, rfl, ⟨_, x, rfl, I.hok.fresh (Nat.le_refl _), rfl, fun ys hy => by rw [I.tuple_inj hy hq]; exact hx⟩, ⟨⟨u', ?_⟩, hst.1.at fun o q => (sb.2 it (Ne.symm hne)).trans q, hne, hai, hae⟩, fun b hb => ?_⟩
    · have e1 : ((i + 1 : Nat) : Int) = (i : Int) + 1 := by omega
      rw [e1]; exact he'
    · have hb' : b < s.heap.objs.size := by
        have e' : b = e ∨ b = it := by simpa using hb
        rcases e' with z | z
        · rw [z]; exact hel
        · rw [z]; exact hil
      rw [upd_ne (Nat.ne_of_lt hb')]
      exact (hf b hb).1
  done := by
    intro X hP hw hK hc i pins s σ H E I hf st hg
    subst hP hw hK
    obtain ⟨⟨old, he⟩, hit, hne, hai, hae⟩ := st
    obtain ⟨xs, hq, hx⟩ := hg
    obtain ⟨its, rv, p, hz⟩ := I.tuple hq
    obtain ⟨f0, f1, f2, f3, f4, f5⟩ := hf it (by simp)
    have hl := rv.length
    refine wpAny_pyNext_enum_endT (I.ok.hd hc) he hit (show s.heap.IsTuple a its.toArray from p) (by simp; omega) fun h' eb => ⟨rfl, I.turned (t' := s.toks) (fun b o hb q => eb b o hb q) f0 f1 f3 f4 f5⟩
  self := fun A i s Q E st h => let ⟨⟨_, he⟩, _⟩ := st; wpAny_pyIter_enum he h
def iEnumA (K : PySem.W.Frag) (ta : TA) : TI := fun σ H R => ta σ H fun vs H1 => ∃ a xs, vs = [.ref a] ∧ ((SqL K H1 a xs ∧ R (Ite K a) H1) ∨ (SqT K H1 a xs ∧ R (IteT K a) H1))
theorem pi_enumA {X : Cx} {e : Expr} {ta : TA} {p pos tpos : Pos} {elts : List Expr} {kk : Nat} (hg : Gl X "enumerate") (hm : X.mg "enumerate" = none) (ha : PA X [e] ta) (hs : starEach [e] X.env = [(false, eval e X.env)] := by rfl) :
    PI X (.Tuple elts kk tpos) (.Call (.Name "enumerate" p) [e] [] pos) (iEnumA X.K ta) := by
  refine ⟨fun pins s σ H R I h => ?_⟩
  refine Call_ (ld_blt I hg hm boot_enumerate (PyProof.Rows.callWith_type1 (thn (ha.run pos pins s σ H _ I h) fun us s1 ⟨vs, H1, I1, r1, q1⟩ => ?_) hs rfl))
  obtain ⟨a, xs, ex, q1⟩ := q1
  subst ex
  cases r1 with
  | cons r rr =>
    cases rr
    cases r
    have fp2 : ∀ b ∈ [s1.heap.objs.size + 1, s1.heap.objs.size], FpOk X pins H1 b := fun b hb => by
      have e' : b = s1.heap.objs.size + 1 ∨ b = s1.heap.objs.size := by simpa using hb
      have hle : s1.heap.objs.size ≤ b := by
        rcases e' with z | z
        · rw [z]; exact Nat.le_add_right _ _
        · rw [z]; exact Nat.le_refl _
      exact I1.fpOk hle (I1.hok.fresh hle)
    rcases q1 with ⟨hq, q⟩ | ⟨hq, q⟩
    · obtain ⟨its, rv, p', hz⟩ := I1.list hq
      refine call_enumerate_list p'.isList fun h' he hit hsz hk => wpAny_pyIter_enum he ?_
      have I2 : Inv X pins σ H1 { s1 with heap := h' } := I1.kept (t' := s1.toks) hk
      exact ⟨s1.heap.objs.size + 1, [s1.heap.objs.size + 1, s1.heap.objs.size], _, _, H1, rfl, I2, turn_enum a (s1.heap.objs.size + 1) s1.heap.objs.size, ⟨⟨.none, he⟩, hit, Nat.succ_ne_self _⟩, fp2, q⟩
    · obtain ⟨its, rv, p', hz⟩ := I1.tuple hq
      have p2 : s1.heap.IsTuple a its.toArray := p'
      have hal : a < s1.heap.objs.size := by obtain ⟨o, ho, _⟩ := id p2; exact Heap.lt_size ho
      refine enum_begins1 (begins_tuple a its.toArray) p2 fun h' he hit hsz hk => wpAny_pyIter_enum he ?_
      have I2 : Inv X pins σ H1 { s1 with heap := h' } := I1.kept (t' := s1.toks) hk
      exact ⟨s1.heap.objs.size + 1, [s1.heap.objs.size + 1, s1.heap.objs.size], _, _, H1, rfl, I2, turn_enumT a (s1.heap.objs.size + 1) s1.heap.objs.size, ⟨⟨.none, he⟩, ⟨_, hit, rfl, rfl⟩, Nat.succ_ne_self _, Nat.ne_of_lt hal, Nat.ne_of_lt (Nat.lt_succ_of_lt hal)⟩, fp2, q⟩
end VL
-- V13
set_option maxHeartbeats 1000000
namespace VL
open PySem PySem.Spec PyProof.Rows L2
section
variable {X : Cx} {G : Gh} {F : Fx} {K : Fr} {a b c e tg it elt tg1 it1 : Expr} {ifs ifs1 es elts : List Expr} {ta tb tc te : TE} {tA : TA} {tt tu tt1 : TT} {sa sb sc se : TV} {ss su ss1 : TB} {wi wi1 : TI} {ui ui1 : TVI} {g g1 : TG} {tG tG1 : TVG} {sL : TVL} {pos p : Pos}
def sLcO (u : TVI) (tG : TVG) (ss : TB) (se : TV) (vs : List Nat) : TV := fun env Q => u env fun n ys e => ∃ I : Nat → List OD → En → Prop, I 0 [] (wipeE e vs) ∧
  (∀ m acc e, m < n → I m acc e → tG (ys m) e fun e2 => ss e2 fun b e3 => match b with
    | true => se e3 fun r e4 => r.asT fun o => acc.length < sizeLine ∧ I (m + 1) (acc ++ [o]) (wipeE e4 vs)
    | false => I (m + 1) acc (wipeE e3 vs)) ∧
  ∀ acc e, I n acc e → Q (.t (.lst acc)) e
theorem lk_lcO {vs tl : List Nat} (hv : ∀ v ∈ vs, v ∉ F.ios) (htl : ∀ j ∈ tl, j ∈ vs) (hu : LkI K G F wi ui) (hg : LkG K G F g tG tl) (hs : LkT K G F tt ss) (he : Lk K G F te se) : Lk K G F (tLc wi g tt te vs) (sLcO ui tG ss se vs) := by
  intro S Γ env σ H Q P fx k x h fin
  refine hu S Γ env σ H _ _ fx k x h fun S1 n ys e1 J H1 s1 k1 x1 it q D hD => ?_
  obtain ⟨Gd, Y, w, hG, hY⟩ := it
  obtain ⟨I, i0, istep, iend⟩ := q
  have wl : ∀ σ, (L2.wipe σ vs).length = σ.length := fun σ => wipe_length σ vs
  have hop : ∀ {Γ : Cl} {c : Cl} {Δ Δ' : Cl}, Δ.Perm (c ++ Δ') → (Γ ++ Δ).Perm (c ++ (Γ ++ Δ')) := fun {Γ c Δ Δ'} p => by
    refine (p.append_left Γ).trans ?_
    rw [← List.append_assoc, ← List.append_assoc]
    exact List.perm_append_comm.append_right _
  refine lc_it w (vs := vs) (σ := σ) (fun m H' => ∃ S' acc env', Sub S1 S' ∧ EnOk (L2.wipe σ vs) env' ∧ offL env' vs ∧ VSt K G S' ((.ref D, .lst acc) :: (Γ ++ cl (L2.wipe σ vs) env')) H' ∧ I m acc env') ?_ (fun m H' _ ⟨S', acc, env', s', _, _, y, _⟩ => hG H' S' s' y.sub) (fun m v H' H2 hm ⟨S', acc, env', s', k', of', y, im⟩ hy => ?_) (fun H' ⟨S', acc, env', s', k', of', y, im⟩ => ?_)
  · obtain ⟨⟨c, pc⟩, k2⟩ := k1.wipe vs
    have y := x1.allocF (vs := []) (ds := []) .nil hD
    refine ⟨S1, [], wipeE e1 vs, Sub.refl, k2, wipeE_off e1 vs, ?_, i0⟩
    have pp : ((V.ref D, OD.lst []) :: (Γ ++ cl σ e1)).Perm (c ++ ((V.ref D, OD.lst []) :: (Γ ++ cl (L2.wipe σ vs) (wipeE e1 vs)))) :=
      (((hop pc).cons _).trans List.perm_middle.symm)
    exact (VSt.perm y pp).dropL
  · obtain ⟨S2, s2, y2, r2⟩ := hY G _ m H' v H2 S' hm s' y hy
    have fxw := fx.wipe hv
    refine hg S2 ((V.ref D, OD.lst acc) :: Γ) env' (L2.wipe σ vs) H2 (ys m) v _ _ fxw k' y2 r2 (istep m acc env' hm im) fun env2 σ2 l2 o2 fx2 k2 x2 q2 => ?_
    have ew : L2.wipe σ2 vs = L2.wipe σ vs := wipe_same htl o2 l2
    refine ⟨ew, ?_⟩
    refine hs S2 _ env2 σ2 H2 _ _ fx2 k2 x2 q2 fun S3 b env3 H3 s3 k3 x3 q3 => ?_
    have nxt : ∀ {S4 : Hp} {env4 : En} {H4 : Hp} {acc' : List OD}, Sub S3 S4 → EnOk σ2 env4 → VSt K G S4 ((V.ref D, OD.lst acc') :: (Γ ++ cl σ2 env4)) H4 → I (m + 1) acc' (wipeE env4 vs) →
        ∃ S' acc env', Sub S1 S' ∧ EnOk (L2.wipe σ vs) env' ∧ offL env' vs ∧ VSt K G S' ((V.ref D, OD.lst acc) :: (Γ ++ cl (L2.wipe σ vs) env')) H4 ∧ I (m + 1) acc env' := fun {S4 env4 H4 acc'} s4 k4 y4 i4 => by
      obtain ⟨⟨c, pc⟩, k5⟩ := k4.wipe vs
      rw [ew] at pc k5
      refine ⟨S4, acc', wipeE env4 vs, s'.trans (s2.trans (s3.trans s4)), k5, wipeE_off env4 vs, ?_, i4⟩
      exact (y4.perm (((hop pc).cons _).trans List.perm_middle.symm)).dropL
    cases b with
    | false => exact iteF (nxt Sub.refl k3 x3 q3)
    | true =>
      refine iteT (he S3 _ env3 σ2 H3 _ _ fx2 k3 x3 q3 fun S4 r env4 u H4 s4 k4 x4 b4 q4 => ?_)
      obtain ⟨o, e, hlen, i4⟩ := Rv.asT_inv q4
      subst e
      have x6 : VSt K G S4 ((V.ref D, OD.lst acc) :: (u, o) :: (Γ ++ cl σ2 env4)) H4 := VSt.perm x4 (List.Perm.swap _ _ _)
      obtain ⟨p', vs', ep, hp, hl⟩ := x6.lstAt
      cases ep
      refine ⟨vs', hp, by rw [hl]; exact hlen, ?_⟩
      have x7 := VSt.appendC x4 hp
      exact nxt s4 k4 x7 i4
  · obtain ⟨k2, e2⟩ := EnOk.unwipe k' of'
    have y' : VSt K G S' ((V.ref D, OD.lst acc) :: (Γ ++ cl σ env')) H' := by rw [e2]; exact y
    exact fin S' (.t (.lst acc)) env' (.ref D) H' (s1.trans s') k2 y' trivial (iend acc env' im)
theorem v_lcO {vs tl : List Nat} {scope : Scope} {own : List (Str × Nat)} (hc : X.calm = true) (hN : X.N.Nodup) (hvs : own.map (·.2) = vs) (hv : ∀ v ∈ vs, v ∉ F.ios) (htl : ∀ j ∈ tl, j ∈ vs) (hi : VI X G F tg it wi ui) (ok : BlkOk X.N X.env.scope scope own)
    (hg : ∀ (s : Shared) (H : Hp) (C : Addr) (cl : List (Str × Addr)) (fp : List Addr), VG (X.blk s H scope (compEnvC scope cl C X.env) fp) G F tg g tG tl)
    (ht : ∀ (s : Shared) (H : Hp) (C : Addr) (cl : List (Str × Addr)) (fp : List Addr), VTs (X.blk s H scope (compEnvC scope cl C X.env) fp) G F ifs tt ss)
    (he : ∀ (s : Shared) (H : Hp) (C : Addr) (cl : List (Str × Addr)) (fp : List Addr), VE (X.blk s H scope (compEnvC scope cl C X.env) fp) G F elt te se) (hs : ∀ x, foldedSetIterable it X.env x = pure x := by intro _; rfl) :
    VE X G F (.ListComp elt [⟨tg, it, ifs, 0⟩] scope pos) (tLc wi g tt te vs) (sLcO ui tG ss se vs) := by
  subst hvs
  exact ⟨pe_lc hc hN hi.pi ok (fun s H C cl fp => (hg s H C cl fp).pg) (fun s H C cl fp => (ht s H C cl fp).pt) (fun s H C cl fp => (he s H C cl fp).pe) hs,
    lk_lcO hv htl hi.lk (hg X.s_0 (fun _ => none) 0 [] []).lk (ht X.s_0 (fun _ => none) 0 [] []).lk (he X.s_0 (fun _ => none) 0 [] []).lk⟩
theorem s_setLcO {i : Nat} {y : Str} {py spos : Pos} {vs tl : List Nat} {scope : Scope} {own : List (Str × Nat)} (hio : i ∉ F.ios) (hc : X.calm = true) (hN : X.N.Nodup) (hy : X.N[i]? = some y) (hyl : X.env.scope.names.lookup y = some .local)
    (hsw : swapsWith (.ListComp elt [⟨tg, it, ifs, 0⟩] scope pos) (some (.Name y py)) spos.line X.env = pure true) (hvs : own.map (·.2) = vs) (hv : ∀ v ∈ vs, v ∉ F.ios) (htl : ∀ j ∈ tl, j ∈ vs) (hi : VI X G F tg it wi ui) (ok : BlkOk X.N X.env.scope scope own)
    (hg : ∀ (s : Shared) (H : Hp) (C : Addr) (cl : List (Str × Addr)) (fp : List Addr), VG (X.blk s H scope (compEnvC scope cl C X.env) fp) G F tg g tG tl)
    (ht : ∀ (s : Shared) (H : Hp) (C : Addr) (cl : List (Str × Addr)) (fp : List Addr), VTs (X.blk s H scope (compEnvC scope cl C X.env) fp) G F ifs tt ss)
    (he : ∀ (s : Shared) (H : Hp) (C : Addr) (cl : List (Str × Addr)) (fp : List Addr), VE (X.blk s H scope (compEnvC scope cl C X.env) fp) G F elt te se) (hs : ∀ x, foldedSetIterable it X.env x = pure x := by intro _; rfl) :
    VS X G F (.Assign [.Name y py] (.ListComp elt [⟨tg, it, ifs, 0⟩] scope pos) spos) (tAsg (tLc wi g tt te vs) (gName i)) (sSet i (sLcO ui tG ss se vs)) := by
  subst hvs
  exact ⟨ps_setLc hc hN hy hyl hsw hi.pi ok (fun s H C cl fp => (hg s H C cl fp).pg) (fun s H C cl fp => (ht s H C cl fp).pt) (fun s H C cl fp => (he s H C cl fp).pe) hs,
    lk_set hio (lk_lcO hv htl hi.lk (hg X.s_0 (fun _ => none) 0 [] []).lk (ht X.s_0 (fun _ => none) 0 [] []).lk (he X.s_0 (fun _ => none) 0 [] []).lk)⟩
theorem lcin_it {J : It} {n : Nat} {Gd : Hp → Prop} {Y : Nat → Hp → V → Hp → Prop} (w : Walk J n Gd Y) {g : TG} {tt : TT} {te : TE} {vs : List Nat} {σ : L2.St} {H1 : Hp} {D : Addr} {Nx : Hp → Prop} (Pv : Nat → Hp → Prop) (h0 : Pv 0 H1) (hG : ∀ i H, i ≤ n → Pv i H → Gd H)
    (hs : ∀ i x H H', i < n → Pv i H → Y i H x H' → g x (L2.wipe σ vs) H' fun σ2 H2 => L2.wipe σ2 vs = L2.wipe σ vs ∧ tt σ2 H2 fun b H3 =>
      if b = true then te σ2 H3 fun y H4 => ∃ acc, H4 D = some (.lst acc) ∧ acc.length < sizeLine ∧ Pv (i + 1) (upd H4 D (.lst (acc ++ [y]))) else Pv (i + 1) H3) (hd : ∀ H, Pv n H → Nx H) :
    ∃ W1 : Nat → Nat → Hp → Prop, (∃ m, W1 0 m H1) ∧ ∀ j k H, W1 j k H →
      (J.stop j H ∧ Nx H) ∨ (J.go j H ∧ ∃ Nx1 : Hp → Prop, (∀ H', Nx1 H' → ∃ k', k' < k ∧ W1 (j + 1) k' H') ∧ ∀ x H', J.yld j H x H' → g x (L2.wipe σ vs) H' fun σ3 H5 => L2.wipe σ3 vs = L2.wipe σ vs ∧ tt σ3 H5 fun b H6 =>
        if b = true then te σ3 H6 fun y H7 => ∃ acc, H7 D = some (.lst acc) ∧ acc.length < sizeLine ∧ Nx1 (upd H7 D (.lst (acc ++ [y]))) else Nx1 H6) := by
  refine ⟨fun i m H => m = n - i ∧ i ≤ n ∧ Pv i H, ⟨n, by simp, Nat.zero_le _, h0⟩, ?_⟩
  rintro i m H ⟨rfl, hi, p⟩
  have q := hG i H hi p
  by_cases hlt : i < n
  · refine .inr ⟨w.goes i H hlt q, Pv (i + 1), fun H' p' => ⟨n - (i + 1), by omega, rfl, hlt, p'⟩, fun x H' y => hs i x H H' hlt p (w.yields i H x H' hlt q y)⟩
  · have e : i = n := by omega
    subst e
    exact .inl ⟨w.stops H q, hd H p⟩
theorem hopP {Γ : Cl} {c : Cl} {Δ Δ' : Cl} (p : Δ.Perm (c ++ Δ')) : (Γ ++ Δ).Perm (c ++ (Γ ++ Δ')) := by
  refine (p.append_left Γ).trans ?_
  rw [← List.append_assoc, ← List.append_assoc]
  exact List.perm_append_comm.append_right _
def Btw (K : Fr) (G : Gh) (S1 : Hp) (Γ : Cl) (D : Addr) (σ : L2.St) (vs : List Nat) (I : List VL.D → En → Prop) (H' : Hp) : Prop :=
  ∃ S' acc env', Sub S1 S' ∧ EnOk (L2.wipe σ vs) env' ∧ offL env' vs ∧ VSt K G S' ((.ref D, .lst (acc.map .st)) :: (Γ ++ cl (L2.wipe σ vs) env')) H' ∧ I acc env'
theorem Btw.mk' {S1 S' H' : Hp} {Γ : Cl} {D : Addr} {σ σ0 : L2.St} {vs : List Nat} {I : List VL.D → En → Prop} {acc : List VL.D} {env : En} (s : Sub S1 S') (k : EnOk σ env) (ew : L2.wipe σ vs = L2.wipe σ0 vs) (y : VSt K G S' ((V.ref D, OD.lst (acc.map .st)) :: (Γ ++ cl σ env)) H') (i : I acc (wipeE env vs)) : Btw K G S1 Γ D σ0 vs I H' := by
  obtain ⟨⟨c, pc⟩, k5⟩ := k.wipe vs
  rw [ew] at pc k5
  exact ⟨S', acc, wipeE env vs, s, k5, wipeE_off env vs, (y.perm (((hopP pc).cons _).trans List.perm_middle.symm)).dropL, i⟩
theorem Btw.appd {S1 S4 H4 : Hp} {Γ : Cl} {D : Addr} {σ2 σ0 : L2.St} {vs : List Nat} {I : List VL.D → En → Prop} {acc : List VL.D} {env4 : En} {u : V} {o : OD} (s : Sub S1 S4) (k : EnOk σ2 env4) (ew : L2.wipe σ2 vs = L2.wipe σ0 vs)
    (x4 : VSt K G S4 ((u, o) :: (V.ref D, OD.lst (acc.map .st)) :: (Γ ++ cl σ2 env4)) H4) (hlen : acc.length < sizeLine) (i : I (acc ++ [frz o]) (wipeE env4 vs)) :
    ∃ vs', H4 D = some (.lst vs') ∧ vs'.length < sizeLine ∧ Btw K G S1 Γ D σ0 vs I (upd H4 D (.lst (vs' ++ [u]))) := by
  obtain ⟨S5, s5, x5⟩ := VSt.freeze x4
  have x6 : VSt K G S5 ((V.ref D, OD.lst (acc.map .st)) :: (u, .st (frz o)) :: (Γ ++ cl σ2 env4)) H4 := x5.perm (List.Perm.swap _ _ _)
  obtain ⟨p', vs', ep, hp, hl⟩ := x6.lstAt
  cases ep
  refine ⟨vs', hp, by rw [hl, List.length_map]; exact hlen, ?_⟩
  have x7 := x5.appendC hp
  refine Btw.mk' (acc := acc ++ [frz o]) (s.trans s5) k ew ?_ i
  rw [List.map_append]
  exact x7
def sLc2 (u : TVI) (tG : TVG) (ss : TB) (u1 : TVI) (tG1 : TVG) (ss1 : TB) (se : TV) (vs vs1 : List Nat) : TV := fun env Q => u env fun n ys e => ∃ I : Nat → List D → En → Prop, I 0 [] (wipeE e vs) ∧
  (∀ m acc e, m < n → I m acc e → tG (ys m) e fun e2 => ss e2 fun b e3 => match b with
    | true => u1 e3 fun n1 ys1 e4 => ∃ I1 : Nat → List D → En → Prop, I1 0 acc (wipeE e4 vs1) ∧
      (∀ m1 acc1 e, m1 < n1 → I1 m1 acc1 e → tG1 (ys1 m1) e fun e5 => ss1 e5 fun b1 e6 => match b1 with
        | true => se e6 fun r e7 => r.asT fun o => acc1.length < sizeLine ∧ I1 (m1 + 1) (acc1 ++ [frz o]) (wipeE e7 vs1)
        | false => I1 (m1 + 1) acc1 (wipeE e6 vs1)) ∧
      ∀ acc1 e, I1 n1 acc1 e → I (m + 1) acc1 (wipeE e vs)
    | false => I (m + 1) acc (wipeE e3 vs)) ∧
  ∀ acc e, I n acc e → Q (.t (.lst (acc.map .st))) e
theorem lk_lc2 {vs vs1 tl tl1 : List Nat} (hv : ∀ v ∈ vs, v ∉ F.ios) (hv1 : ∀ v ∈ vs1, v ∈ vs) (htl : ∀ j ∈ tl, j ∈ vs) (htl1 : ∀ j ∈ tl1, j ∈ vs1) (hu : LkI K G F wi ui) (hg : LkG K G F g tG tl) (hs : LkT K G F tt ss)
    (hu1 : LkI K G F wi1 ui1) (hg1 : LkG K G F g1 tG1 tl1) (hs1 : LkT K G F tt1 ss1) (he : Lk K G F te se) : Lk K G F (tLc2 wi g tt wi1 g1 tt1 te vs vs1) (sLc2 ui tG ss ui1 tG1 ss1 se vs vs1) := by
  intro S Γ env σ H Q P fx k x h fin
  refine hu S Γ env σ H _ _ fx k x h fun S1 n ys e1 J H1 s1 k1 x1 it q D hD => ?_
  obtain ⟨Gd, Y, w, hG, hY⟩ := it
  obtain ⟨I, i0, istep, iend⟩ := q
  refine ⟨fun i m H => m = n - i ∧ i ≤ n ∧ Btw K G S1 Γ D σ vs (I i) H, ⟨n, by simp, Nat.zero_le _, Btw.mk' (acc := []) Sub.refl k1 rfl (x1.allocF (vs := []) (ds := []) .nil hD) i0⟩, ?_⟩
  rintro m mm H' ⟨rfl, hi, hB⟩
  obtain ⟨S', acc, env', s', k', of', y, im⟩ := hB
  have hGd := hG H' S' s' y.sub
  by_cases hm : m < n
  · refine .inr ⟨w.goes m H' hm hGd, fun H => Btw K G S1 Γ D σ vs (I (m + 1)) H, fun H2 p' => ⟨n - (m + 1), by omega, rfl, hm, p'⟩, fun v H2 hy => ?_⟩
    obtain ⟨S2, s2, y2, r2⟩ := hY G _ m H' v H2 S' hm s' y (w.yields m H' v H2 hm hGd hy)
    have fxw := fx.wipe hv
    refine hg S2 ((V.ref D, OD.lst (acc.map .st)) :: Γ) env' (L2.wipe σ vs) H2 (ys m) v _ _ fxw k' y2 r2 (istep m acc env' hm im) fun env2 σ2 l2 o2 fx2 k2 x2 q2 => ?_
    have ew : L2.wipe σ2 vs = L2.wipe σ vs := wipe_same htl o2 l2
    refine ⟨ew, ?_⟩
    refine hs S2 _ env2 σ2 H2 _ _ fx2 k2 x2 q2 fun S3 b env3 H3 s3 k3 x3 q3 => ?_
    cases b with
    | false => exact iteF (Btw.mk' (s'.trans (s2.trans s3)) k3 ew x3 q3)
    | true =>
      refine iteT (hu1 S3 ((V.ref D, OD.lst (acc.map .st)) :: Γ) env3 σ2 H3 _ _ fx2 k3 x3 q3 fun S4 n1 ys1 e4 J1 H4 s4 k4 x4 it1 q4 => ?_)
      obtain ⟨Gd1, Y1, w1, hG1, hY1⟩ := it1
      obtain ⟨I1, j0, jstep, jend⟩ := q4
      refine lcin_it w1 (fun m1 H5 => Btw K G S4 Γ D σ2 vs1 (I1 m1) H5) (Btw.mk' Sub.refl k4 rfl x4 j0) (fun m1 H5 _ ⟨S5, acc1, env5, s5, _, _, y5, _⟩ => hG1 H5 S5 s5 y5.sub) (fun m1 v1 H5 H6 hm1 ⟨S5, acc1, env5, s5, k5, of5, y5, im5⟩ hy1 => ?_) (fun H5 ⟨S5, acc1, env5, s5, k5, of5, y5, im5⟩ => ?_)
      · obtain ⟨S6, s6, y6, r6⟩ := hY1 G _ m1 H5 v1 H6 S5 hm1 s5 y5 hy1
        have fxw1 := fx2.wipe (vs := vs1) fun v hv' => hv v (hv1 v hv')
        refine hg1 S6 ((V.ref D, OD.lst (acc1.map .st)) :: Γ) env5 (L2.wipe σ2 vs1) H6 (ys1 m1) v1 _ _ fxw1 k5 y6 r6 (jstep m1 acc1 env5 hm1 im5) fun env7 σ7 l7 o7 fx7 k7 x7 q7 => ?_
        have ew1 : L2.wipe σ7 vs1 = L2.wipe σ2 vs1 := wipe_same htl1 o7 l7
        refine ⟨ew1, ?_⟩
        refine hs1 S6 _ env7 σ7 H6 _ _ fx7 k7 x7 q7 fun S8 b8 env8 H8 s8 k8 x8 q8 => ?_
        cases b8 with
        | false => exact iteF (Btw.mk' (s5.trans (s6.trans s8)) k8 ew1 x8 q8)
        | true =>
          refine iteT (he S8 _ env8 σ7 H8 _ _ fx7 k8 x8 q8 fun S9 r env9 u9 H9 s9 k9 x9 b9 q9 => ?_)
          obtain ⟨o, e, hlen, i9⟩ := Rv.asT_inv q9
          subst e
          exact Btw.appd (s5.trans (s6.trans (s8.trans s9))) k9 ew1 x9 hlen i9
      · obtain ⟨k6, e6⟩ := EnOk.unwipe k5 of5
        have y6 : VSt K G S5 ((V.ref D, OD.lst (acc1.map .st)) :: (Γ ++ cl σ2 env5)) H5 := by rw [e6]; exact y5
        exact Btw.mk' (s'.trans (s2.trans (s3.trans (s4.trans s5)))) k6 ew y6 (jend acc1 env5 im5)
  · have e : m = n := by omega
    subst e
    refine .inl ⟨w.stops H' hGd, ?_⟩
    obtain ⟨k2, e2⟩ := EnOk.unwipe k' of'
    have y' : VSt K G S' ((V.ref D, OD.lst (acc.map .st)) :: (Γ ++ cl σ env')) H' := by rw [e2]; exact y
    exact fin S' (.t (.lst (acc.map .st))) env' (.ref D) H' (s1.trans s') k2 y' trivial (iend acc env' im)
theorem v_lc2 {vs vs1 tl tl1 : List Nat} {scope : Scope} {own : List (Str × Nat)} (hc : X.calm = true) (hN : X.N.Nodup) (hvs : own.map (·.2) = vs) (hv : ∀ v ∈ vs, v ∉ F.ios) (hv1 : ∀ v ∈ vs1, v ∈ vs) (htl : ∀ j ∈ tl, j ∈ vs) (htl1 : ∀ j ∈ tl1, j ∈ vs1) (hi : VI X G F tg it wi ui) (ok : BlkOk X.N X.env.scope scope own)
    (hg : ∀ (s : Shared) (H : Hp) (C : Addr) (cl : List (Str × Addr)) (fp : List Addr), VG (X.blk s H scope (compEnvC scope cl C X.env) fp) G F tg g tG tl)
    (ht : ∀ (s : Shared) (H : Hp) (C : Addr) (cl : List (Str × Addr)) (fp : List Addr), VTs (X.blk s H scope (compEnvC scope cl C X.env) fp) G F ifs tt ss)
    (hi1 : ∀ (s : Shared) (H : Hp) (C : Addr) (cl : List (Str × Addr)) (fp : List Addr), VI (X.blk s H scope (compEnvC scope cl C X.env) fp) G F tg1 it1 wi1 ui1)
    (hg1 : ∀ (s : Shared) (H : Hp) (C : Addr) (cl : List (Str × Addr)) (fp : List Addr), VG (X.blk s H scope (compEnvC scope cl C X.env) fp) G F tg1 g1 tG1 tl1)
    (ht1 : ∀ (s : Shared) (H : Hp) (C : Addr) (cl : List (Str × Addr)) (fp : List Addr), VTs (X.blk s H scope (compEnvC scope cl C X.env) fp) G F ifs1 tt1 ss1)
    (he : ∀ (s : Shared) (H : Hp) (C : Addr) (cl : List (Str × Addr)) (fp : List Addr), VE (X.blk s H scope (compEnvC scope cl C X.env) fp) G F elt te se) (hs : ∀ x, foldedSetIterable it X.env x = pure x := by intro _; rfl) (hs1 : ∀ env x, foldedSetIterable it1 env x = pure x := by intro _ _; rfl) :
    VE X G F (.ListComp elt [⟨tg, it, ifs, 0⟩, ⟨tg1, it1, ifs1, 0⟩] scope pos) (tLc2 wi g tt wi1 g1 tt1 te vs vs1) (sLc2 ui tG ss ui1 tG1 ss1 se vs vs1) := by
  subst hvs
  exact ⟨pe_lc2 hc hN hi.pi ok hv1 (fun s H C cl fp => (hg s H C cl fp).pg) (fun s H C cl fp => (ht s H C cl fp).pt) (fun s H C cl fp => (hi1 s H C cl fp).pi) (fun s H C cl fp => (hg1 s H C cl fp).pg) (fun s H C cl fp => (ht1 s H C cl fp).pt) (fun s H C cl fp => (he s H C cl fp).pe) hs hs1,
    lk_lc2 hv hv1 htl htl1 hi.lk (hg X.s_0 (fun _ => none) 0 [] []).lk (ht X.s_0 (fun _ => none) 0 [] []).lk (hi1 X.s_0 (fun _ => none) 0 [] []).lk (hg1 X.s_0 (fun _ => none) 0 [] []).lk (ht1 X.s_0 (fun _ => none) 0 [] []).lk (he X.s_0 (fun _ => none) 0 [] []).lk⟩
theorem it_pair {S : Hp} {J : It} {n : Nat} {Gd : Hp → Prop} {xs ys : Nat → Option V} {f g : Nat → D} (w : Walk J n Gd (YPair xs ys)) (hG : ∀ H S', Sub S S' → Sub S' H → Gd H) (h1 : ∀ i v, i < n → xs i = some v → Rep K S v (f i)) (h2 : ∀ i v, i < n → ys i = some v → Rep K S v (g i)) :
    ItOk K S J n fun i => .tup [f i, g i] :=
  ⟨_, _, w, hG, fun G Γ i H x H' S' hi s y h => by
    obtain ⟨T, a, b, e1, e2, e3, e4, e5⟩ := h
    subst e1 e3
    have s3 : Sub S' (upd S' T (.tup [a, b])) := Sub.upd (y.freshS e2)
    exact ⟨_, s3, y.alloc e2, .tup (.inl upd_same) (.cons ((h1 i a hi e4).mono (s.trans s3)) (.cons ((h2 i b hi e5).mono (s.trans s3)) .nil))⟩⟩
theorem walk_enumT {a : Addr} {xs : List V} : Walk (IteT K a) xs.length (fun H => SqT K H a xs) (YPair (fun i => some (.int (i : Nat))) (fun i => xs[i]?)) := by
  refine ⟨fun i _ hi q => ⟨xs, xs[i], q, by simp [hi]⟩, fun _ q => ⟨xs, q, Nat.le_refl _⟩, fun i H v H' _ q y => ?_⟩
  obtain ⟨T, x, h1, h2, h3, h4⟩ := y
  exact ⟨T, .int (i : Nat), x, h1, h2, h3, rfl, h4 xs q⟩
theorem walk_zipT {a b : Addr} {xs ys : List V} {n : Nat} (hn : n = min xs.length ys.length) : Walk (RZ.ItzT K a b) n (fun H => SqT K H a xs ∧ SqT K H b ys) (YPair (fun i => xs[i]?) (fun i => ys[i]?)) := by
  subst hn
  refine ⟨fun i _ hi q => ?_, fun _ q => ⟨xs, ys, q.1, q.2, by omega⟩, fun i H v H' _ q y => ?_⟩
  · have h1 : i < xs.length := by omega
    have h2 : i < ys.length := by omega
    exact ⟨xs, ys, xs[i], ys[i], q.1, q.2, by simp [h1], by simp [h2]⟩
  · obtain ⟨T, x, z, h1, h2, h3, h4, h5⟩ := y
    exact ⟨T, x, z, h1, h2, h3, h4 xs q.1, h5 ys q.2⟩
def D.itm : D → Option (Bool × List D)
  | .lst ds => some (false, ds)
  | .tup ds => some (true, ds)
  | .scr ns => some (false, ns.map .int)
  | _ => none
theorem D.itm_rep {S : Hp} {v : V} {d : D} {b : Bool} {ds : List D} (r : Rep K S v d) (h : d.itm = some (b, ds)) : ∃ a vs, v = .ref a ∧ (b = false → SqL K S a vs) ∧ (b = true → SqT K S a vs) ∧ RepL K S vs ds := by
  cases r <;> cases h
  · rename_i h; exact ⟨_, _, rfl, fun _ => h, (fun z => Bool.noConfusion z), RepL.ints _⟩
  · rename_i h r; exact ⟨_, _, rfl, (fun z => Bool.noConfusion z), fun _ => h.sq, r⟩
  · rename_i h r; exact ⟨_, _, rfl, fun _ => SqL.of h, (fun z => Bool.noConfusion z), r⟩
def uEnum (s : TVL) : TVI := fun env Q => s env fun rs e => match rs with
  | [.t o] => (match (frz o).itm with
    | some (_, ds) => Q ds.length (fun i => .tup [.int (i : Nat), ds.getD i .non]) e
    | none => False)
  | _ => False
theorem getD_rep {S : Hp} {vs : List V} {ds : List D} {i : Nat} {v : V} (r : RepL K S vs ds) (h : vs[i]? = some v) : Rep K S v (ds.getD i .non) := by
  obtain ⟨d, h3, h4⟩ := r.getV h
  rw [List.getD_eq_getElem?_getD, h3]; exact h4
theorem lk_enum (ha : LkA K G F tA sL) : LkI K G F (iEnumA K tA) (uEnum sL) := by
  intro S Γ env σ H Q R fx k x h fin
  refine ha S Γ env σ H _ _ fx k x h fun S1 rs e1 vs H1 s1 k1 x1 b1 h1 => ?_
  match rs, b1, h1, x1 with
  | [.t o], b1, h1, x1 =>
    obtain ⟨v, ev, bv⟩ := bokL1 b1
    subst ev
    rw [rcl1] at x1
    obtain ⟨S2, s2, x2⟩ := VSt.freeze (show VSt K G S1 ((v, o) :: (Γ ++ cl σ e1)) H1 from x1)
    have h1' : (match (frz o).itm with
      | some (_, ds) => Q ds.length (fun i => .tup [.int (i : Nat), ds.getD i .non]) e1
      | none => False) := h1
    split at h1'
    · rename_i b ds hi
      obtain ⟨a, ws, ea, m1, m2, rr⟩ := D.itm_rep x2.rep hi
      subst ea
      have hl := rr.length
      cases b with
      | false =>
        refine ⟨a, ws, rfl, .inl ⟨SqL.mono x2.sub (m1 rfl), ?_⟩⟩
        have w := it_pair (K := K) (S := S2) (f := fun i => .int (i : Nat)) (g := fun i => ds.getD i .non) (walk_enum (K := K) (a := a) (xs := ws)) (fun H S' s s' => SqL.mono (s.trans s') (m1 rfl)) (fun i v _ e => by cases e; exact .int) (fun i v _ e => getD_rep rr e)
        rw [hl] at w
        exact fin S2 _ _ e1 _ H1 (s1.trans s2) k1 x2.drop w h1'
      | true =>
        refine ⟨a, ws, rfl, .inr ⟨SqT.mono x2.sub (m2 rfl), ?_⟩⟩
        have w := it_pair (K := K) (S := S2) (f := fun i => .int (i : Nat)) (g := fun i => ds.getD i .non) (walk_enumT (K := K) (a := a) (xs := ws)) (fun H S' s s' => SqT.mono (s.trans s') (m2 rfl)) (fun i v _ e => by cases e; exact .int) (fun i v _ e => getD_rep rr e)
        rw [hl] at w
        exact fin S2 _ _ e1 _ H1 (s1.trans s2) k1 x2.drop w h1'
    · exact h1'.elim
theorem i_enum {kk : Nat} {tpos : Pos} (hg : Gl X "enumerate") (hm : X.mg "enumerate" = none) (ha : VA X G F [a] tA sL) (hs : starEach [a] X.env = [(false, eval a X.env)] := by rfl) : VI X G F (.Tuple elts kk tpos) (.Call (.Name "enumerate" p) [a] [] pos) (iEnumA X.K tA) (uEnum sL) := ⟨pi_enumA hg hm ha.pa hs, lk_enum ha.lk⟩
def uZip (s : TVL) : TVI := fun env Q => s env fun rs e => match rs with
  | [.t o, .t u] => (match (frz o).itm, (frz u).itm with
    | some (b, ds), some (b2, es) => b = b2 ∧ Q (min ds.length es.length) (fun i => .tup [ds.getD i .non, es.getD i .non]) e
    | _, _ => False)
  | _ => False
theorem lk_zip (ha : LkA K G F tA sL) : LkI K G F (RZ.iZipA K tA) (uZip sL) := by
  intro S Γ env σ H Q R fx k x h fin
  refine ha S Γ env σ H _ _ fx k x h fun S1 rs e1 vs H1 s1 k1 x1 b1 h1 => ?_
  match rs, b1, h1, x1 with
  | [.t o, .t u], b1, h1, x1 =>
    obtain ⟨v, v2, ev, bv, bv2⟩ := bokL2 b1
    subst ev
    rw [rcl2] at x1
    obtain ⟨S2, s2, x2⟩ := VSt.freeze (show VSt K G S1 ((v, o) :: (v2, u) :: (Γ ++ cl σ e1)) H1 from x1)
    have r1 := x2.rep
    obtain ⟨S3, s3, x3⟩ := VSt.freeze x2.drop
    have r2 := x3.rep
    have h1' : (match (frz o).itm, (frz u).itm with
      | some (b, ds), some (b2, es) => b = b2 ∧ Q (min ds.length es.length) (fun i => .tup [ds.getD i .non, es.getD i .non]) e1
      | _, _ => False) := h1
    split at h1'
    · rename_i b ds b2 es hi hj
      obtain ⟨eb, q⟩ := h1'
      subst eb
      obtain ⟨a, ws, ea, m1, m2, rr⟩ := D.itm_rep (r1.mono s3) hi
      obtain ⟨a2, ws2, ea2, n1, n2, rr2⟩ := D.itm_rep r2 hj
      subst ea ea2
      have hl := rr.length
      have hl2 := rr2.length
      refine ⟨a, a2, ws, ws2, rfl, ?_⟩
      cases b with
      | false =>
        refine .inl ⟨SqL.mono x3.sub (m1 rfl), SqL.mono x3.sub (n1 rfl), ?_⟩
        have w := it_pair (K := K) (S := S3) (f := fun i => ds.getD i .non) (g := fun i => es.getD i .non) (walk_zip (K := K) (a := a) (b := a2) (xs := ws) (ys := ws2) rfl) (fun H S' s s' => ⟨SqL.mono (s.trans s') (m1 rfl), SqL.mono (s.trans s') (n1 rfl)⟩) (fun i v _ e => getD_rep rr e) (fun i v _ e => getD_rep rr2 e)
        rw [hl, hl2] at w
        exact fin S3 _ _ e1 _ H1 (s1.trans (s2.trans s3)) k1 x3.drop w q
      | true =>
        refine .inr ⟨SqT.mono x3.sub (m2 rfl), SqT.mono x3.sub (n2 rfl), ?_⟩
        have w := it_pair (K := K) (S := S3) (f := fun i => ds.getD i .non) (g := fun i => es.getD i .non) (walk_zipT (K := K) (a := a) (b := a2) (xs := ws) (ys := ws2) rfl) (fun H S' s s' => ⟨SqT.mono (s.trans s') (m2 rfl), SqT.mono (s.trans s') (n2 rfl)⟩) (fun i v _ e => getD_rep rr e) (fun i v _ e => getD_rep rr2 e)
        rw [hl, hl2] at w
        exact fin S3 _ _ e1 _ H1 (s1.trans (s2.trans s3)) k1 x3.drop w q
    · exact h1'.elim
theorem i_zip {kk : Nat} {tpos : Pos} (hg : Gl X "zip") (hm : X.mg "zip" = none) (ha : VA X G F [a, b] tA sL) (hs : starEach [a, b] X.env = (false, eval a X.env) :: starEach [b] X.env := by rfl) (hpl : (backTo pos (starEach [b] X.env)).any (·.1) = false := by rfl) : VI X G F (.Tuple elts kk tpos) (.Call (.Name "zip" p) [a, b] [] pos) (RZ.iZipA X.K tA) (uZip sL) := ⟨RZ.pi_zipA hg hm ha.pa hs hpl, lk_zip ha.lk⟩
theorem VSt.appendF {S H : Hp} {Γ : Cl} {q : Addr} {os : List OD} {vs ws : List V} {ds : List D} (x : VSt K G S ((.ref q, .lst os) :: Γ) H) (e : H q = some (.lst vs)) (r : RepL K S ws ds) : VSt K G S ((.ref q, .lst (os ++ ds.map .st)) :: Γ) (upd H q (.lst (vs ++ ws))) := by
  obtain ⟨fp, h, nd, fr⟩ := x.cls
  cases h with
  | @cons _ _ _ _ g h r2 => cases h with
    | @lst _ vs' _ f e' l =>
      rw [e] at e'; cases e'
      have nd0 : (q :: (f ++ g)).Nodup := nd
      have np : q ∉ f ++ g := (List.nodup_cons.mp nd0).1
      have l' := (l.off (u := .lst (vs ++ ws)) fun z => np (List.mem_append_left _ z)).append (OwnL.sts (H := upd H q (.lst (vs ++ ws))) r)
      rw [List.append_nil] at l'
      exact x.wr (fr q (by simp)).1 (fr q (by simp)).2 (by rw [e]; exact fun z => nomatch z) (.cons (.lst upd_same l') (r2.off fun z => np (List.mem_append_right _ z))) nd fr
def sExt (i : Nat) (s : TV) : TSV := fun D env => isLst env i fun _ => s env fun r e => match ls e r with
  | some ds => isLst e i fun os => os.length + ds.length ≤ sizeLine ∧ D.nx (e.set i (some (.lst (os ++ ds.map .st))))
  | none => False
abbrev tExt (K : Fr) (i : Nat) (te : TE) : TS := tDrop (tBM K "list" rExtend (tVar i) (tCons te tNil))
theorem lk_ext {i : Nat} (he : Lk K G F te sa) : LkS K G F (tExt K i te) (sExt i sa) := by
  intro S env σ H D E fx k x hh c
  obtain ⟨os0, ho0, q⟩ := isLst_inv hh
  obtain ⟨p0, vs0, hw, hp0, _, _, _⟩ := VSt.open_ (Γ := []) k x ho0
  refine ⟨_, hw, .inl ⟨rfl, _, SqL.of hp0⟩, ?_⟩
  refine he S [] env σ H _ _ fx k x q fun S1 r e1 v H1 s1 k1 x1 b1 q1 => ?_
  have q1' : (match ls e1 r with
    | some ds => isLst e1 i fun os => os.length + ds.length ≤ sizeLine ∧ D.nx (e1.set i (some (.lst (os ++ ds.map .st))))
    | none => False) := q1
  split at q1'
  · rename_i ds hd
    obtain ⟨os, ho, hlen, q⟩ := isLst_inv q1'
    obtain ⟨a2, ws, ea, m1, rr⟩ := ls_rep (Γ := []) k1 x1 b1 hd
    subst ea
    obtain ⟨p, vs, hp1, hp2, hp3, y, bk⟩ := VSt.open_ (Γ := []) k1 (VSt.dropL x1) ho
    rw [hw] at hp1; cases hp1
    refine ⟨p0, a2, vs, ws, rfl, rfl, hp2, m1, by rw [hp3, rr.length]; exact hlen, ?_⟩
    obtain ⟨k4, x4⟩ := bk S1 _ _ [] (VSt.appendF y hp2 rr)
    exact c.nx S1 _ σ _ s1 rfl fx k4 x4 q
  · exact q1'.elim
theorem s_ext {i : Nat} {o : Expr} {apos cpos : Pos} (ho : VE X G F o (tVar i) (sVar i)) (he : VE X G F e te sa)
    (hp : PE X o (tVar i) → PA X [e] (tCons te tNil) → PE X (.Call (.Attribute o "extend" apos) [e] [] cpos) (tBM X.K "list" rExtend (tVar i) (tCons te tNil)) := by exact fun a b => pe_bm PySem.F.plainAttrs_list PySem.F.slot_list_extend PySem.F.type_list_extend mt_extend a b)
    (ha : PE X e te → PA X [e] (tCons te tNil) := by exact fun a => pa_cons a pa_nil) (hs : swapsWith (.Call (.Attribute o "extend" apos) [e] [] cpos) none pos.line X.env = pure false := by rfl) :
    VS X G F (.Expr (.Call (.Attribute o "extend" apos) [e] [] cpos) pos) (tExt X.K i te) (sExt i sa) := ⟨ps_expr (hp ho.pe (ha he.pe)) hs, lk_ext he.lk⟩
def sIdx (so : TV) (s : TV) : TV := fun env Q => so env fun r0 e0 => (ls e0 r0).isSome = true ∧ s e0 fun r e => r.asI fun y => match ls e r0 with
  | some ds => ∃ ns, D.asInts.goI ds = some ns ∧ ∃ j : Nat, ns[j]? = some y ∧ (∀ m : Nat, m < j → ns[m]? ≠ some y) ∧ Q (.t (.st (.int (j : Nat)))) e
  | none => False
theorem eqV_int {n y : Int} : eqV (.int n) (.int y) = decide (n = y) := by
  by_cases e : n = y <;> simp [eqV, e]
theorem v_idx {o : Expr} {to : TE} {so : TV} {apos cpos : Pos} (ho : VE X G F o to so) (he : VE X G F e te sa)
    (hp : PE X o to → PA X [e] (tCons te tNil) → PE X (.Call (.Attribute o "index" apos) [e] [] cpos) (tBM X.K "list" (rIndex X.K) to (tCons te tNil)) := by exact fun a b => pe_bm PySem.F.plainAttrs_list PySem.F.slot_list_index PySem.F.type_list_index mt_index a b)
    (ha : PE X e te → PA X [e] (tCons te tNil) := by exact fun a => pa_cons a pa_nil) : VE X G F (.Call (.Attribute o "index" apos) [e] [] cpos) (tBM X.K "list" (rIndex X.K) to (tCons te tNil)) (sIdx so sa) :=
  ⟨hp ho.pe (ha he.pe), fun S Γ env σ H Q P fx k x hh fin => ho.lk S Γ env σ H _ _ fx k x hh fun S1 r0 e1 v0 H1 s1 k1 x1 b1 q1 => by
    obtain ⟨hsome, q1⟩ := q1
    obtain ⟨ds0, hd0⟩ := Option.isSome_iff_exists.mp hsome
    obtain ⟨a0, vs0, ea0, m0, rr0⟩ := ls_rep k1 x1 b1 hd0
    subst ea0
    refine ⟨.inl ⟨rfl, _, SqL.of m0⟩, ?_⟩
    have x1' : VSt X.K G S1 ((rcl (.ref a0) r0 ++ Γ) ++ cl σ e1) H1 := by rw [List.append_assoc]; exact x1
    refine he.lk S1 (rcl (.ref a0) r0 ++ Γ) e1 σ H1 _ _ fx k1 x1' q1 fun S2 r e2 v H2 s2 k2 x2 b2 q2 => ?_
    obtain ⟨y, e, q⟩ := Rv.asI_inv q2
    subst e
    have z := VSt.rep x2
    cases z
    split at q
    · rename_i ds hd
      obtain ⟨ns, hn, j, hj, hno, q⟩ := q
      have x3 := VSt.drop x2
      have x3' : VSt X.K G S2 (rcl (.ref a0) r0 ++ (Γ ++ cl σ e2)) H2 := by
        have z : VSt X.K G S2 ((rcl (.ref a0) r0 ++ Γ) ++ cl σ e2) H2 := x3
        rw [List.append_assoc] at z; exact z
      obtain ⟨a, vs, ea, m1, rr⟩ := ls_rep k2 x3' b1 hd
      cases ea
      have e2' := goI_inv hn
      subst e2'
      have e3 := rr.ints_inv
      subst e3
      refine ⟨a0, _, .int y, j, .int y, rfl, rfl, SqL.of m1, rfl, flat_ints ns, by rw [List.getElem?_map, hj]; rfl, by rw [eqV_int]; simp, fun m z' hm hz => ?_, fin S2 (.t (.st (.int (j : Nat)))) e2 _ H2 (s1.trans s2) k2 (x3'.dropL.addSt .int) trivial q⟩
      rw [List.getElem?_map] at hz
      cases hq : ns[m]? with
      | none => rw [hq] at hz; cases hz
      | some n =>
        rw [hq] at hz; cases hz
        rw [eqV_int]
        have : n ≠ y := fun z => hno m hm (by rw [hq, z])
        exact decide_eq_false this
    · exact q.elim⟩
def lstO (o : Option OD) (Q : List OD → Prop) : Prop := match o with
  | some (.lst ys) => Q ys
  | _ => False
theorem lstO_inv {o : Option OD} {Q : List OD → Prop} (h : lstO o Q) : ∃ ys, o = some (.lst ys) ∧ Q ys := by
  unfold lstO at h
  split at h
  · exact ⟨_, rfl, h⟩
  · exact h.elim
def flatO (ys : List OD) (Q : List VL.D → Prop) : Prop := match allSt ys with
  | some ds => Q ds
  | none => False
theorem flatO_inv {ys : List OD} {Q : List VL.D → Prop} (h : flatO ys Q) : ∃ ds, ys = ds.map OD.st ∧ Q ds := by
  unfold flatO at h
  split at h
  · rename_i ds e
    exact ⟨ds, allSt_inv e, h⟩
  · exact h.elim
def LkP (K : Fr) (G : Gh) (F : Fx) (te : TE) (t : TV) : Prop := ∀ (S : Hp) (Γ : Cl) (env : En) (σ : L2.St) (H : Hp) (Q : Rv → En → Prop) (P : VK), Fix F σ → EnOk σ env → VSt K G S (Γ ++ cl σ env) H → t env Q →
  (∀ r v, VSt K G S (rcl v r ++ (Γ ++ cl σ env)) H → bok σ v r → Q r env → P v H) → te σ H P
theorem lp_var (i : Nat) : LkP K G F (tVar i) (sVar i) := by
  intro S Γ env σ H Q P fx k x h fin
  have h' : (match env[i]? with
    | some (some (.st d)) => Q (.t (.st d)) env
    | some (some _) => Q (.bor i) env
    | _ => False) := h
  split at h'
  · rename_i d e
    obtain ⟨v, h1, h2, _⟩ := k.take e
    have y := (x.dropL).perm h2
    exact ⟨v, h1, fin (.t (.st d)) v (x.addSt y.rep) trivial h'⟩
  · rename_i o hn e
    obtain ⟨v, h1, h2, _⟩ := k.take e
    exact ⟨v, h1, fin (.bor i) v x h1 h'⟩
  · exact h'.elim
theorem lp_ix (ha : LkP K G F ta sa) (hb : LkP K G F tb sb) : LkP K G F (tOp (rIx K) ta tb) (sOp2 gIx sa sb) := by
  intro S Γ env σ H Q P fx k x h fin
  refine ha S Γ env σ H _ _ fx k x h fun r1 v1 x1 b1 h1 => ?_
  have x1' : VSt K G S ((rcl v1 r1 ++ Γ) ++ cl σ env) H := by rw [List.append_assoc]; exact x1
  refine hb S (rcl v1 r1 ++ Γ) env σ H _ _ fx k x1' h1 fun r2 v2 x2 b2 h2 => ?_
  rw [List.append_assoc] at x2
  unfold gIx at h2
  split at h2
  · rename_i b ds e1
    obtain ⟨i, e2, h'⟩ := Rv.asI_inv h2
    subst e2
    obtain ⟨p1, vs1, q1, m1, m2, rr1⟩ := itm_rep k (x2.dropL) b1 e1
    have z := VSt.rep x2
    cases z
    subst q1
    have h3 : (match atI ds i with
      | some d => Q (.t (.st d)) env
      | none => False) := h'
    split at h3
    · rename_i d hd
      obtain ⟨w, hw, rw'⟩ := atI_rep rr1 hd
      have f := fin (.t (.st d)) w (x2.dropL.dropL.addSt rw') trivial h3
      cases b with
      | false => exact .inl ⟨p1, vs1, i, w, rfl, rfl, m1 rfl, hw, f⟩
      | true => exact .inr (.inl ⟨p1, vs1, i, w, rfl, rfl, m2 rfl, hw, f⟩)
    · exact h3.elim
  · exact h2.elim
def sAppAt (i : Nat) (si s : TV) : TSV := fun D env => isOn env i (si env fun r2 e2 => r2.asI fun k => isLst e2 i fun os => 0 ≤ k ∧ lstO os[k.toNat]? fun ys => flatO ys fun ds => ds.length < sizeLine ∧ s e2 fun r e => r.asT fun o =>
  D.nx (e2.set i (some (.lst (os.set k.toNat (.lst ((ds ++ [frz o]).map .st)))))))
abbrev tAppAt (K : Fr) (i : Nat) (ti te : TE) : TS := tDrop (tBM K "list" rAppend (tOp (rIx K) (tVar i) ti) (tCons te tNil))
theorem lk_appAt {i : Nat} {ti : TE} {si : TV} (hix : Lk K G F ti si) (he : LkP K G F te sa) : LkS K G F (tAppAt K i ti te) (sAppAt i si sa) := by
  intro S env σ H D E fx k x hh c
  obtain ⟨⟨w, hw⟩, q⟩ := isOn_inv k hh
  refine ⟨w, hw, ?_⟩
  refine hix S [] env σ H _ _ fx k x q fun S2 r2 e2 v2 H2 s2 k2 x2 b2 q2 => ?_
  obtain ⟨kk, e, q⟩ := Rv.asI_inv q2
  subst e
  have z := VSt.rep x2
  cases z
  obtain ⟨os, ho, hk0, q⟩ := isLst_inv q
  obtain ⟨ys, hys, q⟩ := lstO_inv q
  obtain ⟨ds, eds, hlen, qe⟩ := flatO_inv q
  subst eds
  obtain ⟨p, vs, hp1, hp2, hp3, y, bk⟩ := VSt.open_ (Γ := []) k2 (VSt.drop x2) ho
  rw [hw] at hp1; cases hp1
  obtain ⟨q0, us, hv0, hq0, hl0, hne0, hrep0, _⟩ := VSt.fillAt (ws := []) (ds := []) y hp2 hys
  have hat : atI vs kk = some (.ref q0) := by
    unfold atI ixN
    have hlt := (List.getElem?_eq_some_iff.mp hv0).1
    rw [if_pos hk0, if_pos (by omega)]
    exact hv0
  refine .inl ⟨p, vs, kk, .ref q0, rfl, rfl, SqL.of hp2, hat, ?_⟩
  refine ⟨.inl ⟨rfl, _, SqL.of hq0⟩, ?_⟩
  refine he S2 [] e2 σ H2 _ _ fx k2 (VSt.drop x2) qe fun r v x3 b3 q3 => ?_
  obtain ⟨o, e, q3⟩ := Rv.asT_inv q3
  subst e
  obtain ⟨S4, s4, x4⟩ := VSt.freeze x3
  obtain ⟨p', vs', hp1', hp2', hp3', y4, bk4⟩ := VSt.open_ (Γ := [(v, .st (frz o))]) k2 x4 ho
  rw [hw] at hp1'; cases hp1'
  rw [hp2] at hp2'; cases hp2'
  have y5 := (y4.perm (List.Perm.swap _ _ _))
  have rv := y5.rep
  obtain ⟨q1, us1, hv1, hq1, hl1, hne1, hrep1, put⟩ := VSt.fillAt (ws := us ++ [v]) (ds := ds ++ [frz o]) y5.drop hp2 hys
  rw [hv0] at hv1; cases hv1
  rw [hq0] at hq1; cases hq1
  refine ⟨q0, us, v, rfl, rfl, hq0, by rw [hl0, List.length_map]; exact hlen, ?_⟩
  obtain ⟨k6, x6⟩ := bk4 S4 _ _ [] (put ((hrep1 ds rfl).append (.cons rv .nil)))
  exact c.nx S4 _ σ _ (s2.trans s4) rfl fx k6 x6 q3
theorem s_appAt {i : Nat} {o ix : Expr} {ti : TE} {si : TV} {apos cpos p1 : Pos} (ho : VE X G F o (tVar i) (sVar i)) (hix : VE X G F ix ti si) (hs0 : PlainIx ix) (he : VE X G F e te sa) (hlk : LkP X.K G F te sa)
    (hp : PE X (.Subscript o ix p1) (tOp (rIx X.K) (tVar i) ti) → PA X [e] (tCons te tNil) → PE X (.Call (.Attribute (.Subscript o ix p1) "append" apos) [e] [] cpos) (tBM X.K "list" rAppend (tOp (rIx X.K) (tVar i) ti) (tCons te tNil)) := by exact fun a b => pe_bm PySem.F.plainAttrs_list PySem.F.slot_list_append PySem.F.type_list_append mt_append a b)
    (ha : PE X e te → PA X [e] (tCons te tNil) := by exact fun a => pa_cons a pa_nil) (hs : swapsWith (.Call (.Attribute (.Subscript o ix p1) "append" apos) [e] [] cpos) none pos.line X.env = pure false := by rfl) :
    VS X G F (.Expr (.Call (.Attribute (.Subscript o ix p1) "append" apos) [e] [] cpos) pos) (tAppAt X.K i ti te) (sAppAt i si sa) := ⟨ps_expr (hp (pe_ix ix_seq ho.pe hix.pe hs0) (ha he.pe)) hs, lk_appAt hix.lk hlk⟩
def sTo (tG : TVG) (s : TV) : TSV := fun D env => s env fun r e => r.asT fun o => tG (frz o) e D.nx
theorem lk_to {tl : List Nat} {g : TG} {tG : TVG} (he : Lk K G F te sa) (hg : LkG K G F g tG tl) : LkS K G F (tAsg te g) (sTo tG sa) := by
  intro S env σ H D E fx k x hh c
  refine he S [] env σ H _ _ fx k x hh fun S1 r e1 v H1 s1 k1 x1 b1 q1 => ?_
  obtain ⟨o, e, q⟩ := Rv.asT_inv q1
  subst e
  obtain ⟨S2, s2, x2⟩ := VSt.freeze x1
  exact hg S2 [] e1 σ H1 _ v _ _ fx k1 x2.drop x2.rep q fun env' σ' l' o' fx' k' x' q' => c.nx S2 env' σ' H1 (s1.trans s2) l' fx' k' x' q'
theorem s_to {tl : List Nat} {g : TG} {tG : TVG} (he : VE X G F e te sa) (hg : VG X G F tg g tG tl) (hs : swapsWithSole [tg] e pos.line X.env = pure false := by rfl) (hw : swappedStores [tg] e X.env = pure none := by rfl)
    (h1 : (assignEach [tg] X.env).map (·.2) = [assign tg X.env] := by rfl) : VS X G F (.Assign [tg] e pos) (tAsg te g) (sTo tG sa) := ⟨ps_asg he.pe hg.pg hs hw h1, lk_to he.lk hg.lk⟩
end
end VL
-- V14
set_option maxHeartbeats 1000000
namespace VL
open PySem PySem.Spec PyProof.Rows L2
def spI1 (K : Fr) (f : Str) : Sp := fun vs H Q _ => ∃ (a C : Addr) (y : V), vs = [.ref a, y] ∧ OexC K C ∧ PySem.W.findIn K (.ref C) f = some none ∧ H a = some (exo a C none) ∧
  ∀ dx, H dx = none → dx ≠ a → Q .non (upd (upd H dx (exd dx [(f, y)])) a (exo a C (some dx)))
def spI2 (K : Fr) (f g : Str) : Sp := fun vs H Q _ => ∃ (a C : Addr) (y z : V), vs = [.ref a, y, z] ∧ OexC K C ∧ PySem.W.findIn K (.ref C) f = some none ∧ PySem.W.findIn K (.ref C) g = some none ∧ H a = some (exo a C none) ∧
  ∀ dx, H dx = none → dx ≠ a → Q .non (upd (upd (upd H dx (exd dx [(f, y)])) a (exo a C (some dx))) dx (exd dx [(g, z), (f, y)]))
section
variable {P : Program} {w : World} {K : Fr} {mg : Str → Option Value} {base : Heap} {params : Arguments} {scope : Scope} {fA : Addr} {fd : FuncData} {q f g : Str}
theorem ok_init1 {p1 p2 p3 p4 : Pos} {body : List Stmt} {kws : List (Str × V)} (Fd : FunD K "__init__" q params body scope [] kws fA fd) (Sc : FnScope ["self", f] ["self", f] scope) (hv0 : Vis scope "self") (hv1 : Vis scope f) (hd : (f == ("__debug__" : Str)) = false) (hcd : (f == ("__classdict__" : Str)) = false)
    (hb : body = [.Assign [.Attribute (.Name "self" p1) f p2] (.Name f p3) p4]) : FnOk P w K mg base (L2N.CX P w) 1 fA fd ["self", f] (spI1 K f) := by
  subst hb
  refine Fd.ok Sc (fun vs H Q E h => ?_) (fun cdv A outer s H vs Q E hr h => ⟨tOst K f (tVar 0) (tVar 1), pss_one (ps_ost (pv 0 rfl hv0) (pv 1 rfl hv1 hd hcd)), ?_⟩)
  · obtain ⟨a, C, y, rfl, _⟩ := h; rfl
  · obtain ⟨a, C, y, rfl, T, hno, ha, hq⟩ := h
    exact ⟨y, rfl, .ref a, rfl, a, C, rfl, T, hno, .inl ⟨ha, fun dx h1 h2 => hq dx h1 h2⟩⟩
theorem ok_init2 {p1 p2 p3 p4 q1 q2 q3 q4 : Pos} {body : List Stmt} {kws : List (Str × V)} (Fd : FunD K "__init__" q params body scope [] kws fA fd) (Sc : FnScope ["self", f, g] ["self", f, g] scope) (hv0 : Vis scope "self") (hv1 : Vis scope f) (hv2 : Vis scope g) (hd : (f == ("__debug__" : Str)) = false) (hcd : (f == ("__classdict__" : Str)) = false)
    (hd2 : (g == ("__debug__" : Str)) = false) (hcd2 : (g == ("__classdict__" : Str)) = false)
    (hb : body = [.Assign [.Attribute (.Name "self" p1) f p2] (.Name f p3) p4, .Assign [.Attribute (.Name "self" q1) g q2] (.Name g q3) q4]) : FnOk P w K mg base (L2N.CX P w) 1 fA fd ["self", f, g] (spI2 K f g) := by
  subst hb
  refine Fd.ok Sc (fun vs H Q E h => ?_) (fun cdv A outer s H vs Q E hr h => ⟨tSeq (tOst K f (tVar 0) (tVar 1)) (tOst K g (tVar 0) (tVar 2)), pss_cons (ps_ost (pv 0 rfl hv0) (pv 1 rfl hv1 hd hcd)) (pss_one (ps_ost (pv 0 rfl hv0) (pv 2 rfl hv2 hd2 hcd2))), ?_⟩)
  · obtain ⟨a, C, y, z, rfl, _⟩ := h; rfl
  · obtain ⟨a, C, y, z, rfl, T, hno, hno2, ha, hq⟩ := h
    refine ⟨y, rfl, .ref a, rfl, a, C, rfl, T, hno, .inl ⟨ha, fun dx h1 h2 => ?_⟩⟩
    exact ⟨z, rfl, .ref a, rfl, a, C, rfl, T, hno2, .inr ⟨dx, [(f, y)], upd_same, by rw [upd_ne h2]; exact upd_same, by simp, hq dx h1 h2⟩⟩
end
section
variable {X : Cx} {e : Expr} {es : List Expr} {ta : TA} {p pos : Pos}
theorem pmk_oexN {CX : CXT} {x : Str} {C fI : Addr} {k : Nat} {fd : FuncData} {ps : List Str} {sp : Sp} {ds : List Value} {dvs : List V} (T : OexC X.K C) (iC : PySem.W.findIn X.K (.ref C) "__init__" = some (some (.ref fI))) (tI : PySem.W.typeIn X.K (.ref fI) = some (.type "function"))
    (F1 : FnOk X.prog X.w X.K X.mg X.base CX k fI fd ps sp) (hr : Room (k + 1) X.A) (hb : Binds X.K fd ps ds) (hd : Vals dvs ds) (hx : Passes CX X (fun _ _ _ => False)) (hg : Gl X x) (hm : X.mg x = some (.ref C)) (ha : PA X (e :: es) ta)
    (hdb : (x == ("__debug__" : Str)) = false := by decide) (he : starEach (e :: es) X.env = (false, eval e X.env) :: starEach es X.env := by rfl) (hpl : (backTo pos (starEach es X.env)).any (·.1) = false := by rfl) :
    L2N.PMk X (.Call (.Name x p) (e :: es) [] pos) (tMkO C sp dvs ta) := by
  intro pins s σ H Q I h
  obtain ⟨nm, q, N, bs, bm, sn, sub, ab, col, dd, k0, k1, k2, k3, k5, hC, hbm⟩ := T.cls
  refine wpAny_Call_Name_kw (ld_glob I hg hm ?_ hdb)
  refine PySem.W.callWith_K (h₀ := X.base) I.ok.mod.kin T.kC (thn (ha.run pos pins s σ H _ I h) fun us s1 ⟨vs, H1, I1, r1, hz, q1⟩ => ⟨I1.kIn, ?_⟩) he hpl
  show wpAny _ _ (call (.ref C) us) _ _ _
  obtain ⟨hp, g, dr, tk, os⟩ := s1
  have hsz : hp.objs.size ≤ hp.objs.size + 1 := Nat.le_succ _
  have hn : H1 (hp.objs.size + 1) = none := I1.hok.fresh hsz
  have hq := q1 (hp.objs.size + 1) hn
  have kk : ∀ b o, hp.get? b = some o → ((hp.push (PySem.W.kdv_tup us)).push (PySem.HandSPX.excO C hp.objs.size)).get? b = some o := fun b o e => Heap.get?_push_of_some _ (Heap.get?_push_of_some _ e)
  have hget : ((hp.push (PySem.W.kdv_tup us)).push (PySem.HandSPX.excO C hp.objs.size)).get? (hp.objs.size + 1) = some (PySem.HandSPX.excO C hp.objs.size) := by heap_get
  have I2 : Inv X pins σ (upd H1 (hp.objs.size + 1) (exo (hp.objs.size + 1) C none)) ⟨(hp.push (PySem.W.kdv_tup us)).push (PySem.HandSPX.excO C hp.objs.size), g, dr, tk, os⟩ :=
    I1.laid (t' := tk) (a := hp.objs.size + 1) (o := exo (hp.objs.size + 1) C none) (h' := (hp.push (PySem.W.kdv_tup us)).push (PySem.HandSPX.excO C hp.objs.size)) kk hsz (exo_ok hget)
  have r2 : Vals (V.ref (hp.objs.size + 1) :: (vs ++ dvs)) (Value.ref (hp.objs.size + 1) :: (us ++ ds)) := .cons rfl (r1.append hd)
  have hl : (Value.ref (hp.objs.size + 1) :: us ++ ds).length = ps.length := by
    have e := r2.length
    rw [F1.len _ _ _ _ hq] at e
    exact e.symm
  have hus : us.length ≤ sizeLine := by
    rw [← Paired.length r1, sizeLine_eq]
    omega
  refine wpAny_call (PySem.HandSPX.call_own F.excBase_ValueError (fun Y => PySem.HandSPX.refsVE_contains Y bm hbm) (I1.kIn _ _ hC) (PySem.W.looks_findIn I1.kIn iC) (fun self => PySem.W.bind_fn I1.kIn self tI) hus
    (codeAny_mono (F1.run _ X.stack _ _ ⟨Value.ref (hp.objs.size + 1) :: us, []⟩ (Value.ref (hp.objs.size + 1) :: (us ++ ds)) _ _ (fun _ _ _ => False) (hr.make C us []) (I2.env0.make C us []) (hb _ (Value.ref (hp.objs.size + 1) :: us) I2.kIn hl) r2 hq) fun r s' hq' => ?_))
  cases r with
  | error er => exact hx pins σ _ _ er s' I2 hq'
  | ok fl =>
    cases fl with
    | ret u =>
      obtain ⟨v, H2, os2, bare2, un2, hok2, rv, ev, d, fs, ea, ed, hd1, q2⟩ := hq'
      subst ev
      obtain ⟨h2, g2, d2, t2, os'⟩ := s'
      obtain ⟨t0, G, J, kG, ge, hoe, na⟩ := mk_end0 (d2 := d2) (t2 := t2) I1 hsz kk un2 hok2 os2 bare2 ea ed hd1
      exact ⟨rv, ⟨_, _, _, ⟨G, g2, d2, t2, os'⟩, _, .ref C, some d, rfl, J, kG, ge, hoe, ⟨rfl, rfl, fun vs e => by cases e; rfl⟩, rfl, rfl, na, rfl, bare2, raises_own T.exC T.tyC, q2⟩⟩
    | next => exact False.elim hq'
    | brk => exact False.elim hq'
    | cont => exact False.elim hq'
end
structure Xc (P : Program) (w : World) (K : Fr) (mg : Str → Option Value) (base : Heap) (x : Str) (ps : List Str) (sp : Sp) : Prop where
  oex : OexC K (He.ga K x)
  no : ∀ f ∈ ps, PySem.W.findIn K (.ref (He.ga K x)) f = some none
  mgx : mg x = some (.ref (He.ga K x))
  init : ∃ fI fd, PySem.W.findIn K (.ref (He.ga K x)) "__init__" = some (some (.ref fI)) ∧ PySem.W.typeIn K (.ref fI) = some (.type "function") ∧ FnOk P w K mg base (L2N.CX P w) 1 fI fd ("self" :: ps) sp ∧ Binds K fd ("self" :: ps) []
section
variable {X : Cx} {G : Gh} {F : Fx} {K : Fr} {e e2 : Expr} {tA : TA} {sL : TVL} {p pos pos2 : Pos} {W : WX} {E : XQ} {x f g : Str}
def sRaise (C : Addr) (ns : List Str) (E : XQ) (s : TVL) : TSV := fun _ env => s env fun rs e => match allT rs with
  | some os => os.length = ns.length ∧ E C ((ns.zip (frzL os)).reverse) e
  | none => False
theorem len1 {α : Type} : ∀ {l : List α}, l.length = 1 → ∃ a, l = [a]
  | [a], _ => ⟨a, rfl⟩
  | [], h => by simp at h
  | _ :: _ :: _, h => by simp at h
theorem len2 {α : Type} : ∀ {l : List α}, l.length = 2 → ∃ a b, l = [a, b]
  | [a, b], _ => ⟨a, b, rfl⟩
  | [], h => by simp at h
  | [_], h => by simp at h
  | _ :: _ :: _ :: _, h => by simp at h
theorem frzL_length : ∀ (os : List OD), (frzL os).length = os.length
  | [] => rfl
  | _ :: r => congrArg (· + 1) (frzL_length r)
theorem heap_xd {H1 : Hp} {a C d : Addr} {u1 u2 u3 : HO} {gs : List (Str × V)} (ha : H1 a = none) (hda : d ≠ a) : upd (del (upd (upd (upd H1 a u1) d u2) a u3) a) d (.xd gs) = upd H1 d (.xd gs) := by
  funext b
  by_cases e1 : b = d
  · subst e1; rw [upd_same, upd_same]
  · rw [upd_ne e1, upd_ne e1]
    by_cases e2 : b = a
    · subst e2; rw [del_same, ha]
    · rw [del_ne e2, upd_ne e2, upd_ne e1, upd_ne e2]
theorem heap_xd2 {H1 : Hp} {a C d : Addr} {u1 u2 u3 u4 : HO} {gs : List (Str × V)} (ha : H1 a = none) (hda : d ≠ a) : upd (del (upd (upd (upd (upd H1 a u1) d u2) a u3) d u4) a) d (.xd gs) = upd H1 d (.xd gs) := by
  funext b
  by_cases e1 : b = d
  · subst e1; rw [upd_same, upd_same]
  · rw [upd_ne e1, upd_ne e1]
    by_cases e2 : b = a
    · subst e2; rw [del_same, ha]
    · rw [del_ne e2, upd_ne e1, upd_ne e2, upd_ne e1, upd_ne e2]
theorem s_raise1 (wx : Wx X G F W E) (T : Xc X.prog X.w X.K X.mg X.base x [f] (spI1 X.K f)) (hr : Room 2 X.A) (hg : Gl X x) (ha : VA X G F [e] tA sL)
    (hdb : (x == ("__debug__" : Str)) = false := by decide) (he : starEach [e] X.env = (false, eval e X.env) :: starEach [] X.env := by rfl) (hpl : (backTo pos (starEach [] X.env)).any (·.1) = false := by rfl) :
    VS X G F (.Raise (some (.Call (.Name x p) [e] [] pos)) none pos2) (fun _ σ H => tMkO (He.ga X.K x) (spI1 X.K f) [] tA σ H fun cls d H' => W cls d σ H') (sRaise (He.ga X.K x) [f] E sL) := by
  obtain ⟨fI, fd, iC, tI, F1, hb⟩ := T.init
  refine ⟨L2N.ps_raise wx.calm wx.tk (pmk_oexN T.oex iC tI F1 hr hb .nil (fun pins σ H s e s' I c => wx.tk e s' (L2N.XE.of_call I (fun _ _ _ h => h.elim) c)) hg T.mgx ha.pa hdb he hpl), ?_⟩
  intro S env σ H D E' fx k x0 h c
  refine ha.lk S [] env σ H _ _ fx k x0 h fun S1 rs e1 vs H1 s1 k1 x1 b1 h1 => ?_
  have h1' : (match allT rs with
    | some os => os.length = [f].length ∧ E (He.ga X.K x) (([f].zip (frzL os)).reverse) e1
    | none => False) := h1
  split at h1'
  · rename_i os ho
    obtain ⟨h3, h4⟩ := allT_rcl ho b1
    rw [h3] at x1
    obtain ⟨S2, s2, x2, r2⟩ := VSt.freezeL h4 x1
    obtain ⟨hl, q⟩ := h1'
    have hl' : os.length = 1 := hl
    refine ⟨by rw [h4, hl']; decide, fun a hna => ?_⟩
    obtain ⟨y, e1'⟩ := len1 (h4.trans hl')
    obtain ⟨o, e2'⟩ := len1 hl'
    subst e1' e2'
    cases r2 with
    | cons r2 rn =>
      refine ⟨a, He.ga X.K x, y, rfl, T.oex, T.no f (by simp), upd_same, fun dx hd1 hd2 => ⟨rfl, dx, [(f, y)], upd_same, by rw [upd_ne hd2]; exact upd_same, by rw [upd_ne hd2] at hd1; exact hd1, ?_⟩⟩
      have hn : H1 dx = none := by rw [upd_ne hd2] at hd1; exact hd1
      rw [heap_xd (C := He.ga X.K x) hna hd2]
      have x3 := x2.alloc (u := .xd [(f, y)]) hn
      have s3 : Sub S2 (upd S2 dx (.xd [(f, y)])) := Sub.upd (x2.freshS hn)
      exact wx.ex _ (He.ga X.K x) _ _ e1 σ _ dx fx k1 x3 upd_same (.cons (r2.mono s3) .nil) q
  · exact h1'.elim
theorem s_raise2 (wx : Wx X G F W E) (T : Xc X.prog X.w X.K X.mg X.base x [f, g] (spI2 X.K f g)) (hr : Room 2 X.A) (hg : Gl X x) (ha : VA X G F [e, e2] tA sL)
    (hdb : (x == ("__debug__" : Str)) = false := by decide) (he : starEach [e, e2] X.env = (false, eval e X.env) :: starEach [e2] X.env := by rfl) (hpl : (backTo pos (starEach [e2] X.env)).any (·.1) = false := by rfl) :
    VS X G F (.Raise (some (.Call (.Name x p) [e, e2] [] pos)) none pos2) (fun _ σ H => tMkO (He.ga X.K x) (spI2 X.K f g) [] tA σ H fun cls d H' => W cls d σ H') (sRaise (He.ga X.K x) [f, g] E sL) := by
  obtain ⟨fI, fd, iC, tI, F1, hb⟩ := T.init
  refine ⟨L2N.ps_raise wx.calm wx.tk (pmk_oexN T.oex iC tI F1 hr hb .nil (fun pins σ H s e s' I c => wx.tk e s' (L2N.XE.of_call I (fun _ _ _ h => h.elim) c)) hg T.mgx ha.pa hdb he hpl), ?_⟩
  intro S env σ H D E' fx k x0 h c
  refine ha.lk S [] env σ H _ _ fx k x0 h fun S1 rs e1 vs H1 s1 k1 x1 b1 h1 => ?_
  have h1' : (match allT rs with
    | some os => os.length = [f, g].length ∧ E (He.ga X.K x) (([f, g].zip (frzL os)).reverse) e1
    | none => False) := h1
  split at h1'
  · rename_i os ho
    obtain ⟨h3, h4⟩ := allT_rcl ho b1
    rw [h3] at x1
    obtain ⟨S2, s2, x2, r2⟩ := VSt.freezeL h4 x1
    obtain ⟨hl, q⟩ := h1'
    have hl' : os.length = 2 := hl
    refine ⟨by rw [h4, hl']; decide, fun a hna => ?_⟩
    obtain ⟨y, z, e1'⟩ := len2 (h4.trans hl')
    obtain ⟨o, o2, e2'⟩ := len2 hl'
    subst e1' e2'
    cases r2 with
    | cons r2 rn =>
     cases rn with
     | cons r3 rn =>
      refine ⟨a, He.ga X.K x, y, z, rfl, T.oex, T.no f (by simp), T.no g (by simp), upd_same, fun dx hd1 hd2 => ⟨rfl, dx, [(g, z), (f, y)], by rw [upd_ne (Ne.symm hd2)]; exact upd_same, upd_same, by rw [upd_ne hd2] at hd1; exact hd1, ?_⟩⟩
      have hn : H1 dx = none := by rw [upd_ne hd2] at hd1; exact hd1
      rw [heap_xd2 (C := He.ga X.K x) hna hd2]
      have x3 := x2.alloc (u := .xd [(g, z), (f, y)]) hn
      have s3 : Sub S2 (upd S2 dx (.xd [(g, z), (f, y)])) := Sub.upd (x2.freshS hn)
      exact wx.ex _ (He.ga X.K x) _ _ e1 σ _ dx fx k1 x3 upd_same (.cons (r3.mono s3) (.cons (r2.mono s3) .nil)) q
  · exact h1'.elim
end
end VL
-- V15
set_option maxHeartbeats 2000000
namespace VL
open PySem PySem.Spec PyProof.Rows L2
section
variable {prog : Program} {w : World} {A : Around} {E : Value → Shared → Prop} {s : Shared} {K : Fr} {x D : Addr} {ox : Obj}
open PySem.W PySem.Calls
theorem findObj_dataO {C : Addr} {od : Option Obj} {name : Str} {a g : Value} (hc : (clsIn K C).isSome = true) (ha : findIn K (.ref C) name = some (some a)) (hg : specialIn K a "__get__" = some (some g)) (ht : takesIn K a = some true) : findObj K C od name = some (.bind g a) := by
  obtain ⟨cd, hc⟩ := Option.isSome_iff_exists.mp hc
  unfold findObj
  rw [hc, Option.bind_some, ha, Option.bind_some]
  simp [hg, ht]
theorem kin_classO {od : Option Obj} {Q : Option Value → Shared → Prop} (hga : findIn K (.ref D) "__getattribute__" = some (some (.builtin "BaseException.__getattribute__"))) (hgt : findIn K (.ref D) "__getattr__" = some none) (hsub : subIn K (.ref D) (.type "BaseException") = some true)
    (hdct : hasDictIn K D = true) (ha : findIn K (.ref D) "__class__" = some (some (.builtin "object.__class__")))
    (hn : specialIn K (.builtin "object.__class__") "__get__" = some (some (.builtin "getset_descriptor.__get__"))) (htk : takesIn K (.builtin "object.__class__") = some true) (hm : mroIn K D (.type "object") = some true)
    (X : K.In s.heap) (I : InstAt s.heap x ox D od) (h : Q (some (.ref D)) { s with toks := s.toks + 1 }) : wpAny (model prog w) A (getAttr? (.ref x) "__class__") Q E s := by
  have hf : findObj K D od "__class__" = some (.bind (.builtin "getset_descriptor.__get__") (.builtin "object.__class__")) := findObj_dataO (by obtain ⟨cd, hc, _⟩ := any_some hdct; rw [hc]; rfl) ha hn htk
  obtain ⟨hp, g, d, t, os⟩ := s
  have L0 := I.type (M := model prog w)
  have L1 := looks_findIn (M := model prog w) X hga
  have L2 := looks_findIn (M := model prog w) X hgt
  have L3 := looks_find (M := model prog w) X I hf
  have sub : Looks (model prog w) hp (isInstance (.ref x) (.type "BaseException")) true := L0.andThen (looks_subIn X hsub)
  have hx0 : (false && onTheHeap (Value.builtin "BaseException.__getattribute__")) = false := rfl
  have hx2 : (Value.builtin "BaseException.__getattribute__" == Value.builtin "object.__getattribute__") = false := by decide +kernel
  have hx1 : (onTheHeap (Value.ref D) && Value.builtin "BaseException.__getattribute__" == Value.builtin "object.__getattribute__") = false := by rw [hx2]; rfl
  unfold getAttr? getAttrBy? getAttrBy
  refine wpAny_bind (wpAny_mkText (wpAny_bind (wpAny_attempt (wpAny_holding (wpAny_bind (L0.at (wpAny_bind (L1.at ?_))))))))
  show wpAny _ _ (if (onTheHeap (Value.ref D) && Value.builtin "BaseException.__getattribute__" == Value.builtin "object.__getattribute__") = true then _ else _) _ _ _
  rw [hx1, if_neg Bool.false_ne_true]
  unfold getAttrByItsOwn hookBefore
  refine wpAny_bind ?_
  rw [if_pos (show onTheHeap (Value.ref D) = true from rfl)]
  refine L2.at ?_
  refine wpAny_bind (wpAny_attempt (wpAny_holding ?_))
  unfold callGetattribute
  rw [hx0, if_neg Bool.false_ne_true]
  unfold boundAndCalled
  rw [PySem.F.excAttr_ValueError.ga.bind (.ref x)]
  refine wpAny_bind (wpAny_pure ?_)
  show wpAny _ _ (call (.builtin "BaseException.__getattribute__") [.ref x, .str "__class__" t]) _ _ _
  refine wpAny_call (codeAny_call_builtin PySem.F.excAttr_ValueError.ga.plain PySem.F.entry_bexc_ga ?_)
  refine @check_slot (model prog w) _ _ ⟨hp, g, d, t + 1, os⟩ "BaseException.__getattribute__" "BaseException" "__getattribute__" (.ref x) [.str "__class__" t] [] _ (by decide +kernel) (by decide +kernel) sub (PySem.F.args_bexc_ga (.ref x) (.str "__class__" t)) ?_
  unfold Builtin.«object.__getattribute__»
  refine wpAny_bind (wpAny_of_eq (a := ((Value.ref x : Value), [Value.str "__class__" t])) (by first | rfl | (simp only [slotArgs]; rfl)) ?_)
  refine wpAny_bind (wpAny_pure (wpAny_bind (L0.at (wpAny_bind (L3.at ?_)))))
  show wpAny _ _ (holding [Value.builtin "object.__class__"] (call (.builtin "getset_descriptor.__get__") [.builtin "object.__class__", .ref x, .ref D]) >>= ret) _ _ _
  refine wpAny_bind (wpAny_holding (wpAny_call (class_get (s := ⟨hp, g, d, t + 1, os⟩) (ox := ox) (od := od) X I hm ?_)))
  refine wpAny_pure ?_
  show wpAny _ _ (handedOut (.ref D)) _ _ _
  rw [handedOut_of (v := .ref D) rfl]
  first
    | exact wpAny_pure (wpAny_pure h)
    | exact wpAny_pure h
    | exact wpAny_pure (wpAny_bind (wpAny_pure (wpAny_pure h)))
theorem kitx_excO (hga : findIn K (.ref D) "__getattribute__" = some (some (.builtin "BaseException.__getattribute__"))) (hgt : findIn K (.ref D) "__getattr__" = some none) (hsub : subIn K (.ref D) (.type "BaseException") = some true) (hdct : hasDictIn K D = true) (ha : findIn K (.ref D) "__class__" = some (some (.builtin "object.__class__")))
    (hn : specialIn K (.builtin "object.__class__") "__get__" = some (some (.builtin "getset_descriptor.__get__"))) (htk : takesIn K (.builtin "object.__class__") = some true) (hm : mroIn K D (.type "object") = some true) :
    KitX K (.ref x) (.ref D) (fun h => ∃ od, InstAt h x ox D od) where
  ty := fun _ _ _ ⟨_, I⟩ => I.type
  it := fun _ _ X _ => by
    obtain ⟨cdD, hcD, _⟩ := any_some hdct
    unfold clsIn at hcD
    split at hcD
    · rename_i c' d' cd' sl' ho
      intro A' Q' E' s' k q
      unfold isType loadHead
      exact wpAny_bind (wpAny_loadPart (k _ _ (X _ _ ho)) (wpAny_pure q))
    · cases hcD
  ne := fun h tp dd its n sl X htp => by
    obtain ⟨cdD, hcD, _⟩ := any_some hdct
    refine Bool.eq_false_iff.mpr fun q => ?_
    have e : D = tp := Value.ref.inj (beq_iff_eq.mp q)
    subst e
    unfold clsIn at hcD
    split at hcD
    · rename_i c' d' cd' sl' ho
      have z := (X _ _ ho).symm.trans htp
      cases z
    · cases hcD
  ca := fun X ⟨_, I⟩ k => kin_classO hga hgt hsub hdct ha hn htk hm X I k
end
structure Hx (X : Cx) (G : Gh) (a C : Addr) (fs : List (Str × D)) : Prop where
  ex : ∃ (oe : Obj) (dd : Addr) (gs : List (Str × V)), (a, oe) ∈ X.pn ∧ L2H.Hot1 X.A (a, oe) ∧ oe.cls = .ref C ∧ oe.dict = some dd ∧ G.S0 dd = some (.xd gs) ∧ RepF X.K G.S0 gs fs
theorem Hx.hot {X : Cx} {G : Gh} {a C : Addr} {fs : List (Str × D)} (h : Hx X G a C fs) : L2H.HotC X := by
  obtain ⟨oe, dd, gs, hm, hh, _⟩ := h.ex
  exact ⟨(a, oe), hh, hm⟩
theorem Hx.inst {X : Cx} {G : Gh} {a C : Addr} {fs : List (Str × D)} (h : Hx X G a C fs) : ∃ (oe : Obj) (dd : Addr) (gs : List (Str × V)), G.S0 dd = some (.xd gs) ∧ RepF X.K G.S0 gs fs ∧
    ∀ {pins : List (Addr × Obj)} {σ : L2.St} {H : Hp} {s : Shared}, Inv X pins σ H s → H dd = some (.xd gs) → ∃ od, PySem.W.InstAt s.heap a oe C (some od) ∧ ∀ mA, s.heap.Ns1 dd mA → ∀ f, PySem.W.lookIn f od = some (mA f) := by
  obtain ⟨oe, dd, gs, hm, ⟨hh, vs, hv, _⟩, hc, hd, hg, hr⟩ := h.ex
  refine ⟨oe, dd, gs, hg, hr, fun {pins σ H s} I hx => ?_⟩
  obtain ⟨hget, _⟩ := I.pin (a, oe) (List.mem_append_left _ hm)
  have hok : ObjOk X.prog X.w H s.heap dd (.xd gs) := I.hok dd _ hx
  obtain ⟨mA, hns, _⟩ := hok
  obtain ⟨od, ho, hl⟩ := lookIn_ns hns
  refine ⟨od, ?_, fun mB hnB f => ?_⟩
  · obtain ⟨oc, oda, odt, osl⟩ := oe
    dsimp only at hc hd hv
    subst hc hd hv
    exact ⟨hget, rfl, rfl, ho⟩
  · obtain ⟨od2, ho2, hl2⟩ := lookIn_ns hnB
    rw [ho] at ho2
    cases ho2
    exact hl2 f
section
variable {X : Cx} {G : Gh} {F : Fx} {K : Fr} {e c it elt tg : Expr} {es : List Expr} {ifs : List Expr} {te : TE} {tA : TA} {tt : TT} {sa se : TV} {sL : TVL} {ss : TB} {wi : TI} {ui : TVI} {g : TG} {tG : TVG} {pos p : Pos} {a C : Addr} {fs : List (Str × D)}
def rIsX (K : Fr) (C a dd : Addr) (gs : List (Str × V)) : List V → Hp → VK → Prop := fun xs H Q => ∃ (c : V) (cv : Value) (b : Bool), xs = [.ref a, c] ∧ (∀ u, RelV c u → u = cv) ∧ PySem.W.kitOne K (.ref C) cv = some b ∧ H dd = some (.xd gs) ∧ Q (.bl b) H
def clsOf : D → Option Value
  | .cls n => some (.type n)
  | .kls C => some (.ref C)
  | _ => none
theorem clsOf_rep {S : Hp} {v : V} {d : D} {cv : Value} (r : Rep K S v d) (h : clsOf d = some cv) : ∀ u, RelV v u → u = cv := by
  cases r <;> cases h
  · intro u hu; exact hu
  · intro u hu; exact hu
def sIsX (K : Fr) (a C : Addr) (s : TVL) : TV := fun env Q => s env fun rs e => match datL e rs with
  | some [.kls a', d] => a' = a ∧ ∃ cv b, clsOf d = some cv ∧ PySem.W.kitOne K (.ref C) cv = some b ∧ Q (.t (.st (.bl b))) e
  | _ => False
theorem v_isX (h : Hx X G a C fs) (T : ExcC X.K C) (hg : Gl X "isinstance") (hm : X.mg "isinstance" = none) (ha : VA X G F (e :: es) tA sL)
    (he : starEach (e :: es) X.env = (false, eval e X.env) :: starEach es X.env := by rfl) (hpl : (backTo pos (starEach es X.env)).any (·.1) = false := by rfl) : ∃ t, VE X G F (.Call (.Name "isinstance" p) (e :: es) [] pos) t (sIsX X.K a C sL) := by
  obtain ⟨oe, dd, gs, hs0, hr, inst⟩ := h.inst
  have hc : CallR X (.builtin "isinstance") (rIsX X.K C a dd gs) := by
    intro pins s σ H xs us Q I r h
    obtain ⟨c, cv, b, rfl, hcv, e, hx, q⟩ := h
    cases r with
    | cons rx rr =>
      cases rr with
      | cons rt rr =>
        cases rr
        cases rx
        have ec := hcv _ rt
        subst ec
        obtain ⟨od, J, _⟩ := inst I hx
        exact PySem.W.kia_one (kitx_excO (ox := oe) T.hg T.hk T.hs T.hd T.ha T.hn T.ht T.hm) I.kIn ⟨some od, J⟩ e (fun z => nomatch z) fun tk => ⟨.bl b, H, I.kept (t' := tk) fun _ _ z => z, rfl, q⟩
  refine ⟨_, pe_callB hc hg hm (by decide +kernel) ha.pa (by decide) (by decide) he hpl, ?_⟩
  intro S Γ env σ H Q P fx k x hh fin
  refine ha.lk S Γ env σ H _ _ fx k x hh fun S1 rs e1 vs H1 s1 k1 x1 b1 h1 => ?_
  have h1' : (match datL e1 rs with
    | some [.kls a', d] => a' = a ∧ ∃ cv b, clsOf d = some cv ∧ PySem.W.kitOne X.K (.ref C) cv = some b ∧ Q (.t (.st (.bl b))) e1
    | _ => False) := h1
  split at h1'
  · rename_i a' d q
    obtain ⟨ea, cv, b, hcv, hkit, hq⟩ := h1'
    subst ea
    have rr := datL_rep k1 x1 b1 q
    cases rr with
    | cons r1 r2 =>
      cases r2 with
      | cons r2 r3 =>
        cases r3
        cases r1
        exact ⟨_, cv, b, rfl, clsOf_rep r2 hcv, hkit, x1.sub _ _ (x1.grow _ _ hs0), fin S1 (.t (.st (.bl b))) e1 _ H1 s1 k1 ((dropA x1).addSt .bl) trivial hq⟩
  · exact h1'.elim
def sXf (a : Addr) (f : Str) (fs : List (Str × D)) (s : TV) : TV := fun env Q => s env fun r e => match r with
  | .t (.st (.kls a')) => a' = a ∧ (match fs.lookup f with
    | some d => Q (.t (.st d)) e
    | none => False)
  | _ => False
def tXfA (a dd : Addr) (gs : List (Str × V)) (f : Str) (te : TE) : TE := fun σ H Q => te σ H fun x H1 => x = .ref a ∧ ∃ (v : V), H1 dd = some (.xd gs) ∧ gs.lookup f = some v ∧ Q v H1
theorem v_xf {f : Str} (h : Hx X G a C fs) (T : XfC X.K C) (hno : PySem.W.findIn X.K (.ref C) f = some none) (he : VE X G F e te sa) (hb : attributeBase e f X.env (eval e X.env) = eval e X.env := by rfl) : ∃ t, VE X G F (.Attribute e f pos) t (sXf a f fs sa) := by
  obtain ⟨oe, dd, gs, hs0, hr, inst⟩ := h.inst
  refine ⟨tXfA a dd gs f te, ⟨fun pins s σ H Q I h => ?_⟩, ?_⟩
  · refine attr_of hb (thn (he.pe.run pins s σ H _ I h) fun u s1 hh => ?_)
    obtain ⟨x, H1, I1, rx, ex, v, ea, l, q⟩ := hh
    subst ex
    obtain rfl : u = Value.ref a := rx
    obtain ⟨od, J, look⟩ := inst I1 ea
    have hx : ObjOk X.prog X.w H1 s1.heap dd (.xd gs) := I1.hok dd _ ea
    obtain ⟨mA, hns, hr⟩ := hx
    obtain ⟨u, hu, ru⟩ := RelO.some_of (v := v) (o := mA f) (by rw [← l]; exact hr f)
    exact HandSPX.exc_get I1.kIn J T.ga T.gg T.exC (PySem.W.findObj_own T.hdC hno rfl (by rw [look mA hns f, hu])) (handed_of ru) ⟨v, H1, I1.tok _, ru, q⟩
  · intro S Γ env σ H Q P fx k x hh fin
    refine he.lk S Γ env σ H _ _ fx k x hh fun S1 r e1 v H1 s1 k1 x1 b1 q1 => ?_
    cases r with
    | bor i => exact (q1 : False).elim
    | t o => cases o with
      | lst _ => exact (q1 : False).elim
      | ins _ _ => exact (q1 : False).elim
      | st d =>
        cases d <;> first | exact (q1 : False).elim | skip
        rename_i a'
        obtain ⟨ec, q2⟩ := (show a' = a ∧ (match fs.lookup f with
          | some d => Q (.t (.st d)) e1
          | none => False) from q1)
        subst ec
        have z := VSt.rep x1
        cases z
        split at q2
        · rename_i d hd
          obtain ⟨w, hw, rw'⟩ := hr.lookup hd
          exact ⟨rfl, w, x1.sub _ _ (x1.grow _ _ hs0), hw, fin S1 (.t (.st d)) e1 w H1 s1 k1 (x1.drop.addSt (rw'.mono x1.grow)) trivial q2⟩
        · exact q2.elim
end
structure FnE (P : Program) (w : World) (K : Fr) (mg : Str → Option Value) (base : Heap) (k : Nat) (f : Addr) (fd : FuncData) (ps : List Str) (sp : Addr × Obj → Sp) : Prop where
  len : ∀ p vs H Q E, sp p vs H Q E → vs.length = ps.length
  run : ∀ (A : Around) (outer : List Env) (s : Shared) (H : Hp) (args : Args) (us : List Value) (vs : List V) (Q : VK) (E : XK) (p : Addr × Obj), L2H.RoomH k A → L2H.Hot1 A p → L2H.PinOk outer H s p → Env0 P w K mg base A outer s H → BindsTo s fd args (ps.zip us) → Vals vs us → sp p vs H Q E →
    codeAny (model P w) A (.call (.ref f) args) (CR (L2N.CX P w) outer P w H s Q E) s
theorem fn_ofE {P : Program} {w : World} {K : Fr} {mg : Str → Option Value} {base : Heap} {k : Nat} {f : Addr} {name qual : Str} {params : Arguments} {body : List Stmt} {scope : Scope} {dV kV doc pm cdv ct oc : Value} {an od : Option Addr}
    {osl : Array (Option Value)} {N ps : List Str} {sp : Addr × Obj → Sp} (lk : K.lookup f = some ⟨oc, od, .func (PySem.W.fnOf name qual params body scope dV kV doc pm an cdv ct), osl⟩) (hcd : PySem.W.codeIn K cdv qual = true) (S : FnScope N ps scope)
    (len : ∀ p vs H Q E, sp p vs H Q E → vs.length = ps.length)
    (hbody : ∀ (A : Around) (outer : List Env) (s : Shared) (H : Hp) (vs : List V) (Q : VK) (E : XK) (p : Addr × Obj), L2H.Hot1 (A.deeper (envOfC qual scope s.heap.objs.size f cdv)) p → L2H.RoomH k (A.deeper (envOfC qual scope s.heap.objs.size f cdv)) → sp p vs H Q E →
      ∃ t, PSs (L2H.cxH (L2N.CX P w) P w K mg base N qual scope f cdv A outer s H E p) body t ∧ t { nx := fun _ H' => Q .non H', rt := Q } (L2.start N vs) H) :
    FnE P w K mg base (k + 1) f (PySem.W.fnOf name qual params body scope dV kV doc pm an cdv ct) ps sp := by
  refine ⟨len, fun A outer s H args us vs Q E p hr hot hpin e0 hb r hsp => ?_⟩
  have hl := len _ _ _ _ _ hsp
  have KX : K.In s.heap := e0.mod.kin.keeps fun b o e => (e0.bs b o e).1
  have lim : s.heap.NoLimit := e0.mod.nolimit.keeps fun b o e => (e0.bs b o e).1
  have hkind : ∀ y ∈ ps.zip us, scope.names.lookup y.1 = some .local ∨ (scope.names.lookup y.1 = some .cell ∧ ((cellsFrom (s.heap.objs.size + 1) scope.names []).lookup y.1).isSome = true) := fun ⟨n, v⟩ hy => by
    rcases S.par n (List.of_mem_zip hy).1 with q | q
    · exact .inl q
    · exact .inr ⟨q, PySem.W.cellsFrom_some _ _ _ (.inl q)⟩
  refine codeAny_call_function hr.depth (KX _ _ lk) rfl S.co S.gen rfl (PySem.W.codeRec_of KX hcd) (hb _ _ _ _ ?_)
  refine wpAny_newFunctionEnv_cells S.kind hkind fun env he s1 x => ?_
  subst he
  refine ⟨lim.keeps x.toInCall.keep, codeAny_func ?_⟩
  obtain ⟨t, ht, hq⟩ := hbody A outer s H vs Q E p hot (hr.deeper _) hsp
  have I : Inv (L2H.cxH (L2N.CX P w) P w K mg base N qual scope f cdv A outer s H E p) [] (L2.start N vs) H s1 := L2H.inv_startH S hpin e0 hl r x
  refine wpAny_mono (ht.run [] s1 (L2.start N vs) H _ I hq) (fun fl s' hs => ?_) fun e s' hs => hs
  have fin : ∀ {σ' : L2.St} {H' : Hp} {v : V} {u : Value}, Inv (L2H.cxH (L2N.CX P w) P w K mg base N qual scope f cdv A outer s H E p) [] σ' H' s' → RelV v u → Q v H' → CE outer P w H s Q u s' :=
    fun {σ' H' v u} J rv q => ⟨v, H', J.os, J.bare, J.base, J.hok, rv, q⟩
  cases fl with
  | ret u =>
    obtain ⟨v, σ', H', J, rv, q⟩ := hs
    exact fin J rv q
  | next =>
    obtain ⟨σ', H', J, q⟩ := hs
    exact fin (v := V.non) (u := Value.none) J rfl q
  | brk =>
    obtain ⟨_, _, _, q⟩ := hs
    exact False.elim q
  | cont =>
    obtain ⟨_, _, _, q⟩ := hs
    exact False.elim q
theorem FunD.okE {P : Program} {w : World} {K : Fr} {mg : Str → Option Value} {base : Heap} {x qual : Str} {params : Arguments} {body : List Stmt} {scope : Scope} {dvs : List V} {kws : List (Str × V)} {f : Addr} {fd : FuncData} {N ps : List Str} {k : Nat} {sp : Addr × Obj → Sp} (Fd : FunD K x qual params body scope dvs kws f fd) (S : FnScope N ps scope)
    (len : ∀ p vs H Q E, sp p vs H Q E → vs.length = ps.length)
    (hbody : ∀ (cdv : Value) (A : Around) (outer : List Env) (s : Shared) (H : Hp) (vs : List V) (Q : VK) (E : XK) (p : Addr × Obj), L2H.Hot1 (A.deeper (envOfC qual scope s.heap.objs.size f cdv)) p → L2H.RoomH k (A.deeper (envOfC qual scope s.heap.objs.size f cdv)) → sp p vs H Q E →
      ∃ t, PSs (L2H.cxH (L2N.CX P w) P w K mg base N qual scope f cdv A outer s H E p) body t ∧ t { nx := fun _ H' => Q .non H', rt := Q } (L2.start N vs) H) : FnE P w K mg base (k + 1) f fd ps sp := by
  obtain ⟨oc, od, dV, kV, doc, pm, an, cdv, ct, osl, rfl, lk, hcd, _, _⟩ := Fd.ex
  exact fn_ofE lk hcd S len fun A outer s H vs Q E p hot hr hsp => hbody cdv A outer s H vs Q E p hot hr hsp
section
variable {X : Cx} {k : Nat} {f : Addr} {fd : FuncData} {ps : List Str} {sp : Addr × Obj → Sp} {E : L2.St → XK} {x : Str} {q pos : Pos} {e : Expr} {es : List Expr} {t : TA} {p : Addr × Obj}
theorem run_fnE {pins : List (Addr × Obj)} {σ : L2.St} {H : Hp} {s : Shared} {Q : VK} {us : List Value} {vs : List V} (Fn : FnE X.prog X.w X.K X.mg X.base k f fd ps sp) (hr : L2H.RoomH k X.A) (hot : L2H.Hot1 X.A p) (hp : p ∈ X.pn) (hb : Binds X.K fd ps [])
    (I : Inv X pins σ H s) (r : Vals vs us) (h : sp p vs H Q (fun _ _ _ => False)) : wpAny (model X.prog X.w) X.A (call (.ref f) us) (EP X pins σ Q) X.xe s := by
  have hl : us.length = ps.length := by rw [← r.length]; exact Fn.len _ _ _ _ _ h
  have b := hb s us I.kIn (by rw [List.append_nil]; exact hl)
  rw [List.append_nil] at b
  have P1 := I.pin p (List.mem_append_left _ hp)
  have hpin : L2H.PinOk X.stack H s p := ⟨P1.1, P1.2.1, fun hm => (List.mem_cons.mp (I.stkSub p.1 hm)).elim P1.2.2.1 P1.2.2.2.1, P1.2.2.2.2⟩
  refine wpAny_call (codeAny_mono (Fn.run X.A X.stack s H ⟨us, []⟩ us vs Q (fun _ _ _ => False) p hr hot hpin I.env0 b r h) fun r s' hq => ?_)
  cases r with
  | error e =>
    obtain ⟨_, _, _, _, _, _, _, _, _, _, _, _, _, _, _, _, w⟩ := L2N.XE.of_call (W := fun _ _ _ _ => False) I (fun _ _ _ h => h) hq
    exact w.elim
  | ok fl =>
    cases fl with
    | ret u => exact I.after hq
    | next => exact False.elim hq
    | brk => exact False.elim hq
    | cont => exact False.elim hq
theorem pe_callE (Fn : FnE X.prog X.w X.K X.mg X.base k f fd ps sp) (hr : L2H.RoomH k X.A) (hot : L2H.Hot1 X.A p) (hp : p ∈ X.pn) (hg : Gl X x) (hm : X.mg x = some (.ref f)) (hk : PySem.W.keepIn X.K (.ref f) = true) (hb : Binds X.K fd ps [])
    (ha : PA X (e :: es) t) (hdb : (x == ("__debug__" : Str)) = false := by decide) (he : starEach (e :: es) X.env = (false, eval e X.env) :: starEach es X.env := by rfl) (hpl : (backTo pos (starEach es X.env)).any (·.1) = false := by rfl) :
    PE X (.Call (.Name x q) (e :: es) [] pos) (fun σ H Q => t σ H fun vs H1 => sp p vs H1 Q (fun _ _ _ => False)) := by
  refine ⟨fun pins s σ H Q I h => ?_⟩
  refine wpAny_Call_Name_kw (ld_glob I hg hm ?_ hdb)
  refine PySem.W.callWith_K (h₀ := X.base) I.ok.mod.kin hk (thn (ha.run pos pins s σ H _ I h) fun us s1 ⟨vs, H1, I1, r, q⟩ => ⟨I1.kIn, ?_⟩) he hpl
  exact run_fnE Fn hr hot hp hb I1 r q
end
abbrev CtrE := Addr → Addr → List (Str × D) → List OD → (OD → Prop) → Prop
def VSpE (K : Fr) (C : CtrE) : Addr × Obj → Sp := fun p vs H Q _ => ∃ (S : Hp) (os : List OD) (fp : List Addr) (c dd : Addr) (gs : List (Str × V)) (fs : List (Str × D)) (Q1 : OD → Prop),
  vs.length = os.length ∧ VSt K ⟨S, H, fp⟩ S (vs.zip os) H ∧ p.2.cls = .ref c ∧ p.2.dict = some dd ∧ S dd = some (.xd gs) ∧ RepF K S gs fs ∧ C p.1 c fs os Q1 ∧
  ∀ r S' v H', Q1 r → Sub S S' → VSt K ⟨S, H, fp⟩ S' [(v, r)] H' → Q v H'
def OkE (P : Program) (w : World) (K : Fr) (mg : Str → Option Value) (base : Heap) (x : Str) (ps : List Str) (k : Nat) (C : CtrE) : Prop :=
  ∃ fd, FnE P w K mg base k (He.ga K x) fd ps (VSpE K C) ∧ mg x = some (.ref (He.ga K x)) ∧ PySem.W.keepIn K (.ref (He.ga K x)) = true ∧ Binds K fd ps []
theorem Wx.hotc {X : Cx} : True := trivial
def endE (Q1 : OD → Prop) : De := { nx := fun _ => Q1 (.st .non), rt := fun o _ => Q1 o }
theorem okE_of {P : Program} {w : World} {K : Fr} {mg : Str → Option Value} {base : Heap} {x : Str} {st : Stmt} {kws : List (Str × V)} {N ps : List Str} {k : Nat} {C : CtrE} (T : Dfn K mg x st [] kws) (Sc : FnScope N ps (defScope st))
    (hbd : ∀ fd, FunD K x x (defArgs st) (defBody st) (defScope st) [] kws (He.ga K x) fd → Binds K fd ps []) (len : ∀ a c fs os Q, C a c fs os Q → os.length = ps.length)
    (hbody : ∀ (cdv : Value) (A : Around) (outer : List Env) (s : Shared) (H : Hp) (G : Gh) (s0 : L2.St) (E : XK) (p : Addr × Obj) (a c : Addr) (fs : List (Str × D)) (os : List OD) (Q1 : OD → Prop), L2H.RoomH k (A.deeper (envOfC x (defScope st) s.heap.objs.size (He.ga K x) cdv)) → C a c fs os Q1 →
      Hx (L2H.cxH (L2N.CX P w) P w K mg base N x (defScope st) (He.ga K x) cdv A outer s H E p) G a c fs →
      ∃ ts t, VB (L2H.cxH (L2N.CX P w) P w K mg base N x (defScope st) (He.ga K x) cdv A outer s H E p) G ⟨[], s0⟩ (defBody st) ts t ∧ t (endE Q1) (en0 N os)) : OkE P w K mg base x ps (k + 1) C := by
  obtain ⟨⟨fd, Fd⟩, hm⟩ := T
  refine ⟨fd, FunD.okE Fd Sc (fun p vs H Q E h => ?_) (fun cdv A outer s H vs Q E p hot hr h => ?_), hm, Fd.kp, hbd fd Fd⟩
  · obtain ⟨S, os, fp, c, dd, gs, fs, Q1, hl, _, _, _, _, _, hc, _⟩ := h
    rw [hl]; exact len _ _ _ _ _ hc
  · obtain ⟨S, os, fp, c, dd, gs, fs, Q1, hl, y, hcls, hdict, hS, hR, hc, hq⟩ := h
    have hps := len _ _ _ _ _ hc
    obtain ⟨k0, e0⟩ := en0_ok (N.length - os.length) hl
    have hst : L2.start N vs = vs.map some ++ List.replicate (N.length - os.length) none := by unfold L2.start; rw [hl]
    have hx : Hx (L2H.cxH (L2N.CX P w) P w K mg base N x (defScope st) (He.ga K x) cdv A outer s H E p) ⟨S, H, fp⟩ p.1 c fs := ⟨⟨p.2, dd, gs, List.mem_singleton.mpr rfl, hot, hcls, hdict, hS, hR⟩⟩
    obtain ⟨ts, t, hb, ht⟩ := hbody cdv A outer s H ⟨S, H, fp⟩ (L2.start N vs) E p p.1 c fs os Q1 hr hc hx
    refine ⟨ts, hb.ps, ?_⟩
    have k1 : EnOk (L2.start N vs) (en0 N os) := by rw [hst]; exact k0
    have x1 : VSt K ⟨S, H, fp⟩ S (cl (L2.start N vs) (en0 N os)) H := by
      rw [hst, show en0 N os = os.map some ++ List.replicate (N.length - os.length) none from rfl, e0]; exact y
    refine hb.lk S (en0 N os) _ H _ _ (fun _ h => nomatch h) k1 x1 ht ⟨fun S' env σ H' s _ fx k' x' q => ?_, fun _ _ _ _ _ _ _ _ _ q => q.elim, fun _ _ _ _ _ _ _ _ _ q => q.elim, fun S' o env σ v H' s _ fx k' x' q => ?_⟩
    · exact hq _ S' .non H' q s ((VSt.dropL (Γ' := cl σ env) (Γ := []) (by rw [List.append_nil]; exact x')).addSt .non)
    · exact hq _ S' v H' q s (VSt.dropL (Γ' := cl σ env) (Γ := [(v, o)]) (x'.perm (by
        have := List.perm_append_comm (l₁ := [(v, o)]) (l₂ := cl σ env)
        exact this)))
section
variable {X : Cx} {G : Gh} {F : Fx} {e : Expr} {es : List Expr} {tA : TA} {sL : TVL} {pos p : Pos} {a c : Addr} {fs : List (Str × D)} {C : CtrE}
def sCallE (a c : Addr) (fs : List (Str × D)) (C : CtrE) (s : TVL) : TV := fun env Q => s env fun rs e => match allT rs with
  | some os => C a c fs os fun r => Q (.t r) e
  | none => False
theorem v_callE {x : Str} {k : Nat} {ps : List Str} (h : Hx X G a c fs) (O : OkE X.prog X.w X.K X.mg X.base x ps k C) (hr : L2H.RoomH k X.A) (hg : Gl X x) (ha : VA X G F (e :: es) tA sL)
    (hdb : (x == ("__debug__" : Str)) = false := by decide) (he : starEach (e :: es) X.env = (false, eval e X.env) :: starEach es X.env := by rfl) (hpl : (backTo pos (starEach es X.env)).any (·.1) = false := by rfl) :
    ∃ t, VE X G F (.Call (.Name x p) (e :: es) [] pos) t (sCallE a c fs C sL) := by
  obtain ⟨fd, h1, h2, h3, h4⟩ := O
  obtain ⟨oe, dd, gs, hm, hot, hcls, hdict, hS, hR⟩ := h.ex
  refine ⟨_, pe_callE h1 hr hot hm hg h2 h3 h4 ha.pa hdb he hpl, ?_⟩
  intro S Γ env σ H Q P fx k x hh fin
  refine ha.lk S Γ env σ H _ _ fx k x hh fun S1 rs e1 vs H1 s1 k1 x1 b1 h1 => ?_
  have h1' : (match allT rs with
    | some os => C a c fs os fun r => Q (.t r) e1
    | none => False) := h1
  split at h1'
  · rename_i os ho
    obtain ⟨h3, h4⟩ := allT_rcl ho b1
    rw [h3] at x1
    obtain ⟨fp, y, join⟩ := x1.part
    refine ⟨S1, os, fp, c, dd, gs, fs, _, h4, y, hcls, hdict, x1.grow _ _ hS, hR.mono x1.grow, h1', fun r S' v H' q s z => ?_⟩
    have x3 := join S' H' _ s z
    exact fin S' (.t r) e1 v H' (s1.trans s) k1 x3 trivial q
  · exact h1'.elim
end
end VL
-- V16
set_option maxHeartbeats 2000000
namespace VL
open PySem PySem.Spec PyProof.Rows L2
abbrev blkH (X : Cx) (s : Shared) (H : Hp) (scope : Scope) (cenv : Env) (fp : List Addr) : Cx := { X.blk s H scope cenv fp with pn := X.pn }
theorem blkH_ok {X : Cx} {s : Shared} {H : Hp} {scope : Scope} {cenv : Env} {fp : List Addr} (ok : (X.blk s H scope cenv fp).Ok) : (blkH X s H scope cenv fp).Ok :=
  ⟨ok.mod, ok.kind, ok.glob, ok.blt, ok.above, ok.inj, ok.has, ok.cab, ok.hd, ok.frames, ok.stk, ok.exf, ok.bs, ok.bsz, ok.noex, ok.exfs, ok.funs, ok.frf⟩
section
variable {X : Cx}
theorem lcH_core {pins : List (Addr × Obj)} {s : Shared} {σ : L2.St} {H : Hp} {Q : VK} {elt tg iter : Expr} {ifs : List Expr} {scope : Scope} {own : List (Str × Nat)} {pos pos' : Pos} {wi : TI} {g : TG} {tt : TT} {te : TE} {use : Option (Value → Sem Unit)} {Qf : Value → Shared → Prop}
    (hc : L2H.HotC X) (hN : X.N.Nodup) (I : Inv X pins σ H s) (hi : L2H.PIH X tg iter wi) (ok : BlkOk X.N X.env.scope scope own)
    (hg : ∀ (s : Shared) (H : Hp) (C : Addr) (cl : List (Str × Addr)) (fp : List Addr), PG (blkH X s H scope (compEnvC scope cl C X.env) fp) tg g) (ht : ∀ (s : Shared) (H : Hp) (C : Addr) (cl : List (Str × Addr)) (fp : List Addr), PTs (blkH X s H scope (compEnvC scope cl C X.env) fp) ifs tt)
    (he : ∀ (s : Shared) (H : Hp) (C : Addr) (cl : List (Str × Addr)) (fp : List Addr), PE (blkH X s H scope (compEnvC scope cl C X.env) fp) elt te) (hs : ∀ x, foldedSetIterable iter X.env x = pure x)
    (h : tLc wi g tt te (own.map (·.2)) σ H Q)
    (hRR : ∀ D C s' m H', Inv X pins σ H' s' → Q (.ref D) H' → s'.heap.Ns C m → FpOk X pins H' C → compPost (model X.prog X.w) X.A X.xe use Qf (.ref D) C (.ok .next) s') :
    wpAny (model X.prog X.w) X.A (comprehension (.ListComp elt [⟨tg, iter, ifs, 0⟩] scope pos) scope X.env pos' (newList []) false (eval iter X.env) use) Qf X.xe s := by
  have hfree : ∀ y ∈ scope.names, y.2 = .free → ∃ c, X.env.cells.lookup y.1 = some c := fun y hy e => by
    rcases ok.free y hy e with k | k
    · exact I.ok.has _ (.inl k)
    · exact I.ok.has _ (.inr k)
  refine wpAny_comprehension_free (use := use) rfl hs (closure_ok hfree) ok.kind (fun y hy e => by rw [ok.uniq y hy, e])
    (thn (hi.run pins s σ H _ I h) fun xv s1 hx => thn hx fun itv s2 h2 => ?_)
  obtain ⟨it, fp, tn, J, H2, e, I2, T, st2, f2, q⟩ := h2
  subst e
  refine wpAny_newObj_type (newEnv_comp ?_) (by show 0 ≤ sizeLine; decide)
  generalize hD : s2.heap.objs.size = D
  have hDn : H2 D = none := I2.hok.fresh (Nat.le_of_eq hD)
  obtain ⟨W, ⟨m0, w0⟩, turn⟩ := q D hDn
  generalize hs3 : ({ s2 with heap := s2.heap.push { cls := .type "list", data := .seq ([] : List Value).toArray } } : Shared) = s3
  have I3 : Inv X pins σ (upd H2 D (.lst [])) s3 := by
    rw [← hs3]
    refine I2.laid (t' := s2.toks) (fun b o e => Heap.get?_push_of_some _ e) (Nat.le_of_eq hD) ⟨Nat.zero_le _, [], 0, .nil, ?_⟩
    rw [← hD]
    exact Heap.get?_push_size _ rfl
  have h3 : s3.heap = s2.heap.push { cls := .type "list", data := .seq ([] : List Value).toArray } := by rw [← hs3]
  have sz : ∀ b ∈ fp, b < s2.heap.objs.size := fun b hb => by
    obtain ⟨o, e, _⟩ := T.obj _ _ st2 b hb
    exact Heap.lt_size e
  have f3 : ∀ b ∈ fp, FpOk X pins (upd H2 D (.lst [])) b ∧ b < s3.heap.objs.size := fun b hb => by
    have hlt := sz b hb
    refine ⟨⟨?_, (f2 b hb).2⟩, by rw [h3, Heap.size_push]; exact Nat.lt_succ_of_lt hlt⟩
    rw [upd_ne (by rw [← hD]; exact Nat.ne_of_lt hlt)]
    exact (f2 b hb).1
  have st3 : tn 0 s3.heap := T.keep _ _ _ st2 fun b _ o e => by rw [h3]; exact Heap.get?_push_of_some _ e
  have I4' := block_start I3 ok hN f3
  have npn : ∀ p ∈ X.pn, ∀ b ∈ fp, p.1 ≠ b := fun p hp b hb => (f2 b hb).2.2.2.2.2 p (List.mem_append_left _ hp)
  have I4 : Inv (blkH X s3 (upd H2 D (.lst [])) scope (compEnvC scope (cellsFrom (s3.heap.objs.size + 1) scope.names (cloFrom X.env.cells scope.names [])) s3.heap.objs.size X.env) fp) [] (wipe σ (own.map (·.2))) (upd H2 D (.lst [])) { s3 with heap := pushCells (s3.heap.push { cls := .type "dict", data := .dict #[] }) scope.names } :=
    ⟨blkH_ok I4'.ok, I4'.os, I4'.bare, I4'.base, I4'.loc, I4'.cell, I4'.free, I4'.freeC, fun p hp => by
      rw [List.append_nil] at hp
      have P1 := I3.pin p (List.mem_append_left _ hp)
      have hlt : p.1 < s3.heap.objs.size := Heap.lt_size P1.1
      exact ⟨pushCells_keeps _ _ _ _ (Heap.get?_push_of_some _ P1.1), P1.2.1, Nat.ne_of_lt hlt, fun hm => (List.mem_cons.mp (I3.stkSub p.1 hm)).elim P1.2.2.1 P1.2.2.2.1, P1.2.2.2.2⟩, I4'.hok, I4'.len⟩
  have pg := hg s3 (upd H2 D (.lst [])) s3.heap.objs.size (cellsFrom (s3.heap.objs.size + 1) scope.names (cloFrom X.env.cells scope.names [])) fp
  have pt := ht s3 (upd H2 D (.lst [])) s3.heap.objs.size (cellsFrom (s3.heap.objs.size + 1) scope.names (cloFrom X.env.cells scope.names [])) fp
  have pe := he s3 (upd H2 D (.lst [])) s3.heap.objs.size (cellsFrom (s3.heap.objs.size + 1) scope.names (cloFrom X.env.cells scope.names [])) fp
  show codeAny _ _ (.compStart (.ListComp elt [⟨tg, iter, ifs, 0⟩] scope pos) 0 (.ref it) (.ref D) (compEnvC scope (cellsFrom (s3.heap.objs.size + 1) scope.names (cloFrom X.env.cells scope.names [])) s3.heap.objs.size X.env)) (compPost (model X.prog X.w) X.A X.xe use Qf (.ref D) s3.heap.objs.size) { s3 with heap := pushCells (s3.heap.push { cls := .type "dict", data := .dict #[] }) scope.names }
  have nfp : ∀ b ∈ fp, (upd H2 D (.lst [])) b = none := fun b hb => (f3 b hb).1.1
  generalize hce : compEnvC scope (cellsFrom (s3.heap.objs.size + 1) scope.names (cloFrom X.env.cells scope.names [])) s3.heap.objs.size X.env = ce at I4 pg pt pe ⊢
  have cL : ce.locals = s3.heap.objs.size := by subst hce; rfl
  clear I4'
  generalize hH3 : upd H2 D (.lst []) = H3 at I3 I4 pg pt pe w0 nfp f3
  generalize hs4 : ({ s3 with heap := pushCells (s3.heap.push { cls := .type "dict", data := .dict #[] }) scope.names } : Shared) = s4 at I4 ⊢
  have st4 : tn 0 s4.heap := T.keep _ _ _ st3 fun b _ o e => by rw [← hs4]; exact pushCells_keeps _ _ _ _ (Heap.get?_push_of_some _ e)
  have hcB : L2H.HotC (blkH X s3 H3 scope ce fp) := hc
  have stat : ∀ {σ' : L2.St} {H' : Hp} {s' : Shared}, Inv (blkH X s3 H3 scope ce fp) [] σ' H' s' → (∀ b ∈ fp, H' b = none) → ∀ b ∈ fp, FpOk (blkH X s3 H3 scope ce fp) [] H' b := fun {σ' H' s'} I' hn b hb =>
    ⟨hn b hb, (I'.ok.exf b hb).1, I'.ok.exfs b hb, .inl hb, fun x c e => (I'.ok.exf b hb).2 x c e, fun p hp => npn p (by rw [List.append_nil] at hp; exact hp) b hb⟩
  have loop : codeAny (model X.prog X.w) X.A (.compLoop (.ListComp elt [⟨tg, iter, ifs, 0⟩] scope pos) 0 (.ref it) (.ref D) ce) (compPost (model X.prog X.w) X.A X.xe use Qf (.ref D) s3.heap.objs.size) s4 := by
    refine compLoop_any (fun n s' => ∃ i H', Inv (blkH X s3 H3 scope ce fp) [] (wipe σ (own.map (·.2))) H' s' ∧ tn i s'.heap ∧ (∀ b ∈ fp, H' b = none) ∧ W i n H') ?_ m0 ⟨0, H3, I4, st4, nfp, w0⟩
    rintro n s5 ⟨i, H5, I5, st5, n5, w5⟩
    rcases turn i n H5 w5 with ⟨stop, qq⟩ | ⟨go, Nx, hNx, step⟩
    · have td := T.done (blkH X s3 H3 scope ce fp) rfl rfl rfl hcB i [] s5 _ H5 (fun _ _ => False) I5 (stat I5 n5) st5 stop
      refine thnF td fun r s6 ⟨hr, I6⟩ => ?_
      subst hr
      have I7 : Inv X pins σ H5 s6 := I3.call' (ch := fp) I6.os I6.base I6.hok I6.bare fun b hb => ⟨(f3 b hb).1.2.2.2.1, (f3 b hb).1.2.1, (f3 b hb).1.2.2.2.2.1, (f3 b hb).1.2.2.2.2.2⟩
      have nC : H5 s3.heap.objs.size = none := by
        have z : H5 ce.locals = none := I6.free
        rw [cL] at z
        exact z
      obtain ⟨m, hn, _⟩ := I6.loc
      have hn : s6.heap.Ns ce.locals m := hn
      rw [cL] at hn
      exact hRR D s3.heap.objs.size s6 m H5 I7 qq hn (I3.fpOk (Nat.le_refl _) nC)
    · have ti := T.item (blkH X s3 H3 scope ce fp) rfl rfl rfl hcB i [] s5 _ H5 (fun _ _ => False) I5 (stat I5 n5) st5 go
      refine thnF ti fun r s6 ⟨u, hr, h6⟩ => ?_
      subst hr
      refine thnF h6 fun _ s7 ⟨x, H7, I7, r7, y7, st7, n7⟩ => ?_
      have I7' := I7.pinned (stat I7 n7) (T.obj _ _ st7)
      refine thnF (pg.run _ s7 _ H7 x u _ I7' r7 (step x H7 y7)) fun _ s8 ⟨σ8, H8, I8, hw8, q8⟩ => ?_
      refine thnF (pt.run _ s8 σ8 H8 _ I8 q8) fun b s9 ⟨H9, I9, q9⟩ => ?_
      have fin : ∀ {s' : Shared} {H' : Hp}, Inv (blkH X s3 H3 scope ce fp) ([] ++ pinsAt fp s7.heap) σ8 H' s' → Nx H' → ∃ m, m < n ∧ ∃ i H', Inv (blkH X s3 H3 scope ce fp) [] (wipe σ (own.map (·.2))) H' s' ∧ tn i s'.heap ∧ (∀ b ∈ fp, H' b = none) ∧ W i m H' := fun {s' H'} I' nx => by
        obtain ⟨m', hm, w'⟩ := hNx H' nx
        have pin' : ∀ b ∈ fp, ∀ o, s7.heap.get? b = some o → s'.heap.get? b = some o ∧ H' b = none := fun b hb o e =>
          let z := I'.pin (b, o) (List.mem_append_right _ (List.mem_append_right _ (mem_pinsAt hb e)))
          ⟨z.1, z.2.1⟩
        have hl : (wipe σ (own.map (·.2))).length = σ8.length := by rw [← hw8, wipe_length]
        refine ⟨m', hm, i + 1, H', (I'.unpinned (pins := [])).weak hl (fun j v e => ?_), T.keep _ _ _ st7 fun b hb o e => (pin' b hb o e).1, fun b hb => ?_, w'⟩
        · rw [← hw8] at e
          exact (wipe_some e).1
        · obtain ⟨o, e, _⟩ := T.obj _ _ st7 b hb
          exact (pin' b hb o e).2
      cases b with
      | false =>
        simp only [Bool.false_eq_true, if_false] at q9 ⊢
        exact fin I9 q9
      | true =>
        simp only [if_true] at q9 ⊢
        refine thnF (pe.run _ s9 σ8 H9 _ I9 q9) fun z s10 ⟨yv, H10, I10, r10, acc, hD10, hz10, nx⟩ => ?_
        exact app_ok (X := blkH X s3 H3 scope ce fp) I10 hD10 hz10 r10 fun s11 I11 => fin I11 nx
  exact codeAny_compStart_list loop (T.self X.A 0 _ _ _ st4 loop)
theorem pe_lcH {elt tg iter : Expr} {ifs : List Expr} {scope : Scope} {own : List (Str × Nat)} {pos : Pos} {wi : TI} {g : TG} {tt : TT} {te : TE} (hc : L2H.HotC X) (hN : X.N.Nodup) (hi : L2H.PIH X tg iter wi) (ok : BlkOk X.N X.env.scope scope own)
    (hg : ∀ (s : Shared) (H : Hp) (C : Addr) (cl : List (Str × Addr)) (fp : List Addr), PG (blkH X s H scope (compEnvC scope cl C X.env) fp) tg g) (ht : ∀ (s : Shared) (H : Hp) (C : Addr) (cl : List (Str × Addr)) (fp : List Addr), PTs (blkH X s H scope (compEnvC scope cl C X.env) fp) ifs tt)
    (he : ∀ (s : Shared) (H : Hp) (C : Addr) (cl : List (Str × Addr)) (fp : List Addr), PE (blkH X s H scope (compEnvC scope cl C X.env) fp) elt te) (hs : ∀ x, foldedSetIterable iter X.env x = pure x := by intro _; rfl) :
    PE X (.ListComp elt [⟨tg, iter, ifs, 0⟩] scope pos) (tLc wi g tt te (own.map (·.2))) := by
  refine ⟨fun pins s σ H Q I h => ?_⟩
  rw [eval_ListComp]
  refine lcH_core hc hN I hi ok hg ht he hs h fun D C s' m H' I' q hn f => ⟨m, hn, fun h'' sb => ?_⟩
  obtain ⟨f0, f1, f2, f3, f4, f5⟩ := f
  exact ⟨.ref D, H', I'.turned (t' := s'.toks) (fun b o hb e => (sb.2 b hb).trans e) f0 f1 f3 f4 f5, rfl, q⟩
theorem ps_setLcH {i : Nat} {y : Str} {py : Pos} {elt tg iter : Expr} {ifs : List Expr} {scope : Scope} {own : List (Str × Nat)} {pos spos : Pos} {wi : TI} {g : TG} {tt : TT} {te : TE} (hc : L2H.HotC X) (hN : X.N.Nodup) (hy : X.N[i]? = some y) (hyl : X.env.scope.names.lookup y = some .local)
    (hsw : swapsWith (.ListComp elt [⟨tg, iter, ifs, 0⟩] scope pos) (some (.Name y py)) spos.line X.env = pure true) (hi : L2H.PIH X tg iter wi) (ok : BlkOk X.N X.env.scope scope own)
    (hg : ∀ (s : Shared) (H : Hp) (C : Addr) (cl : List (Str × Addr)) (fp : List Addr), PG (blkH X s H scope (compEnvC scope cl C X.env) fp) tg g) (ht : ∀ (s : Shared) (H : Hp) (C : Addr) (cl : List (Str × Addr)) (fp : List Addr), PTs (blkH X s H scope (compEnvC scope cl C X.env) fp) ifs tt)
    (he : ∀ (s : Shared) (H : Hp) (C : Addr) (cl : List (Str × Addr)) (fp : List Addr), PE (blkH X s H scope (compEnvC scope cl C X.env) fp) elt te) (hs : ∀ x, foldedSetIterable iter X.env x = pure x := by intro _; rfl) :
    PS X (.Assign [.Name y py] (.ListComp elt [⟨tg, iter, ifs, 0⟩] scope pos) spos) (tAsg (tLc wi g tt te (own.map (·.2))) (gName i)) := by
  refine ⟨fun pins s σ H D I h => ?_⟩
  rw [exec_Assign_Name_used _ _ _ _ hsw]
  refine wpAny_bind (wpAny_standAt (wpAny_bind ?_))
  show wpAny _ X.A (do let _ ← comprehension (.ListComp elt [⟨tg, iter, ifs, 0⟩] scope pos) scope X.env (firstIterPos [⟨tg, iter, ifs, 0⟩] pos) (newList []) false (eval iter X.env) (some (assign (.Name y py) X.env))) _ _ s
  have h : tLc wi g tt te (own.map (·.2)) σ H (fun x H1 => gName i x σ H1 D.nx) := h
  refine wpAny_bind (thn (lcH_core (Qf := fun _ s' => SP X pins D .next s') hc hN I hi ok hg ht he hs h fun L C s' m H' I' q hn f => ?_) fun _ s' hq => wpAny_pure (wpAny_pure hq))
  show wpAny _ _ (assign (.Name y py) X.env (.ref L)) _ _ _
  refine wpAny_assign_Name (store_ok2 (v := V.ref L) I' hN hy (.inl hyl) rfl (fun s2 I2 ⟨a, sb, ha⟩ => ?_) (.inr hyl))
  obtain ⟨f0, f1, f2, f3, f4, f5⟩ := f
  have haC : C ≠ a := by
    rcases ha with z | z
    · rw [z]; exact f1
    · exact fun e => f4 y a z e.symm
  refine ⟨m, hn.sameBut sb haC, fun h3 sb3 => ?_⟩
  exact ⟨_, H', I2.turned (t' := s2.toks) (fun b o hb e => (sb3.2 b hb).trans e) f0 f1 f3 f4 f5, q⟩
end
structure VIH (X : Cx) (G : Gh) (F : Fx) (tg it : Expr) (wi : TI) (u : TVI) : Prop where
  pi : L2H.PIH X tg it wi
  lk : LkI X.K G F wi u
section
variable {X : Cx} {G : Gh} {F : Fx} {K : Fr} {a b c e tg it elt : Expr} {ifs es elts : List Expr} {ta tb tc te : TE} {tA : TA} {tt tu : TT} {sa sb sc se : TV} {ss su : TB} {sL : TVL} {wi : TI} {ui : TVI} {g : TG} {tG : TVG} {pos p : Pos}
theorem i_rng1H (hg : Gl X "range") (hm : X.mg "range" = none) (ha : VA X G F [a] tA sL) (hs : starEach [a] X.env = [(false, eval a X.env)] := by rfl) : VIH X G F tg (.Call (.Name "range" p) [a] [] pos) (iRng1 tA) (uRng1 sL) := ⟨L2H.pi_range1H hg hm ha.pa hs, lk_rng1 ha.lk⟩
theorem s_setLcH {i : Nat} {y : Str} {py spos : Pos} {vs tl : List Nat} {scope : Scope} {own : List (Str × Nat)} (hio : i ∉ F.ios) (hc : L2H.HotC X) (hN : X.N.Nodup) (hy : X.N[i]? = some y) (hyl : X.env.scope.names.lookup y = some .local)
    (hsw : swapsWith (.ListComp elt [⟨tg, it, ifs, 0⟩] scope pos) (some (.Name y py)) spos.line X.env = pure true) (hvs : own.map (·.2) = vs) (hv : ∀ v ∈ vs, v ∉ F.ios) (htl : ∀ j ∈ tl, j ∈ vs) (hi : VIH X G F tg it wi ui) (ok : BlkOk X.N X.env.scope scope own)
    (hg : ∀ (s : Shared) (H : Hp) (C : Addr) (cl : List (Str × Addr)) (fp : List Addr), VG (blkH X s H scope (compEnvC scope cl C X.env) fp) G F tg g tG tl)
    (ht : ∀ (s : Shared) (H : Hp) (C : Addr) (cl : List (Str × Addr)) (fp : List Addr), VTs (blkH X s H scope (compEnvC scope cl C X.env) fp) G F ifs tt ss)
    (he : ∀ (s : Shared) (H : Hp) (C : Addr) (cl : List (Str × Addr)) (fp : List Addr), VE (blkH X s H scope (compEnvC scope cl C X.env) fp) G F elt te se) (hs : ∀ x, foldedSetIterable it X.env x = pure x := by intro _; rfl) :
    VS X G F (.Assign [.Name y py] (.ListComp elt [⟨tg, it, ifs, 0⟩] scope pos) spos) (tAsg (tLc wi g tt te vs) (gName i)) (sSet i (sLc ui tG ss se vs)) := by
  subst hvs
  exact ⟨ps_setLcH hc hN hy hyl hsw hi.pi ok (fun s H C cl fp => (hg s H C cl fp).pg) (fun s H C cl fp => (ht s H C cl fp).pt) (fun s H C cl fp => (he s H C cl fp).pe) hs,
    lk_set hio (lk_lc hv htl hi.lk (hg X.s_0 (fun _ => none) 0 [] []).lk (ht X.s_0 (fun _ => none) 0 [] []).lk (he X.s_0 (fun _ => none) 0 [] []).lk)⟩
end
end VL
-- V17
set_option maxHeartbeats 2000000
namespace VL
open PySem PySem.Spec PyProof.Rows L2
section
variable {X : Cx} {G : Gh} {F : Fx} {W : WX} {E : XQ} {x n : Str} {Cx : Addr} {i : Nat} {body suite : List Stmt} {b₀ : Stmt} {np pos pos' : Pos}
def tbV (K : Fr) (F : Fx) (t : XQ → TSV) (W : WX) : TS := fun D σ H => ∃ (S : Hp) (env : En) (G : Gh) (E : XQ) (De : De), Fix F σ ∧ EnOk σ env ∧ VSt K G S (cl σ env) H ∧
  (∀ (S : Hp) (C : Addr) (fs : List (Str × VL.D)) (gs : List (Str × V)) (env : En) (σ : L2.St) (H : Hp) (d : Addr), Fix F σ → EnOk σ env → VSt K G S (cl σ env) H → S d = some (.xd gs) → RepF K S gs fs → E C fs env → W (.ref C) (some d) σ H) ∧
  Con K G F S σ.length De D ∧ t E De env
def tsV (K : Fr) (F : Fx) (u : Addr → Addr → List (Str × D) → TSV) (a : Addr) (cls : Value) (d : Option Addr) : TS := fun D σ H => ∃ (S : Hp) (env : En) (G : Gh) (C : Addr) (fs : List (Str × VL.D)) (dd : Addr) (gs : List (Str × V)) (De : De), cls = .ref C ∧ d = some dd ∧ G.S0 dd = some (.xd gs) ∧ RepF K G.S0 gs fs ∧
  Fix F σ ∧ EnOk σ env ∧ VSt K G S (cl σ env) H ∧ Con K G F S σ.length De D ∧ u a C fs De env
def sTry (K : Fr) (Cx : Addr) (i : Nat) (t : XQ → TSV) (u : Addr → Addr → List (Str × D) → TSV) (E : XQ) : TSV := fun D env => i < env.length ∧ t (fun C fs e => e.length = env.length ∧ ∃ b, PySem.W.exmOne K (.ref C) (.ref Cx) = some b ∧
  (b = true → ∀ a, u a C fs { nx := fun e2 => D.nx (e2.set i none), rt := D.rt, bk := fun e2 => D.bk (e2.set i none), ct := fun e2 => D.ct (e2.set i none) } (e.set i (some (.st (.kls a))))) ∧ (b = false → E C fs e)) D env
theorem Con.part {K : Fr} {S H : Hp} {m : Nat} {D : De} {E : Ends} {fp : List Addr} (c : Con K G F S m D E) (join : ∀ S' H' Γ2, Sub S S' → VSt K ⟨S, H, fp⟩ S' Γ2 H' → VSt K G S' (Γ2 ++ []) H') : Con K ⟨S, H, fp⟩ F S m D E :=
  ⟨fun S' env σ H' s l fx k x => c.nx S' env σ H' s l fx k (by have := join S' H' _ s x; rwa [List.append_nil] at this), fun S' env σ H' s l fx k x => c.bk S' env σ H' s l fx k (by have := join S' H' _ s x; rwa [List.append_nil] at this),
   fun S' env σ H' s l fx k x => c.ct S' env σ H' s l fx k (by have := join S' H' _ s x; rwa [List.append_nil] at this), fun S' o env σ v H' s l fx k x => c.rt S' o env σ v H' s l fx k (by have := join S' H' _ s x; rwa [List.append_nil] at this)⟩
theorem s_try {t : XQ → TSV} {u : Addr → Addr → List (Str × D) → TSV} (wx : Wx X G F W E) (hio : i ∉ F.ios) (hs : X.stack = X.env :: X.outer) (hf : X.env.frame = some X.env.locals) (hN : X.N.Nodup) (hi : X.N[i]? = some n) (hln : X.env.kindOf n = some .local) (hc : Names X x (.ref Cx))
    (hb : ∀ (W' : WX) (pn : List (Addr × Obj)) (xe : Value → Shared → Prop) (G' : Gh) (E' : XQ), Wx (X.tr pn xe) G' F W' E' → ∃ ts, VB (X.tr pn xe) G' F body ts (t E'))
    (hsu : ∀ (a : Addr) (oe : Obj) (pn : List (Addr × Obj)) (G' : Gh) (C : Addr) (fs : List (Str × D)), Hx (X.suite a ((a, oe) :: pn)) G' a C fs → ∃ ts, VB (X.suite a ((a, oe) :: pn)) G' F (b₀ :: suite) ts (u a C fs)) :
    VS X G F (.Try body [.ExceptHandler (some (.Name x np)) (some n) (b₀ :: suite) pos'] [] [] pos) (fun D σ H => tbV X.K F t (wAs X.K (.ref Cx) i (tsV X.K F u) W D) D σ H) (sTry X.K Cx i t u E) := by
  refine ⟨L2N.ps_try_as (tb := tbV X.K F t) (ts := tsV X.K F u) hs hf hN hi hln hc wx.tk (fun W' pn xe tk po => ⟨fun pins s σ H D I h => ?_⟩) (fun a oe cls d pn hz hv => ⟨fun pins s σ H D I h => ?_⟩), ?_⟩
  · obtain ⟨S, env, G', E', De, fx, k, x, hex, c, ht⟩ := h
    obtain ⟨ts, vb⟩ := hb W' pn xe G' E' ⟨tk, po, wx.calm, hex⟩
    exact vb.ps.run pins s σ H D I (vb.lk S env σ H De D fx k x ht c)
  · obtain ⟨S, env, G', C, fs, dd, gs, De, ec, ed, hg, hr, fx, k, x, c, ht⟩ := h
    subst ec ed
    obtain ⟨vs, hv⟩ := hv
    obtain ⟨ts, vb⟩ := hsu a oe pn G' C fs ⟨⟨oe, dd, gs, List.mem_cons_self, ⟨rfl, vs, hv, hz.2.2 vs hv⟩, hz.1, hz.2.1, hg, hr⟩⟩
    exact vb.ps.run pins s σ H D I (vb.lk S env σ H De D fx k x ht c)
  · intro S env σ H D E' fx k x hh c
    obtain ⟨hi', ht⟩ := hh
    have x0 : VSt X.K G S (cl σ env ++ []) H := by rw [List.append_nil]; exact x
    obtain ⟨fp, y, join⟩ := x0.part
    refine ⟨S, env, ⟨S, H, fp⟩, _, D, fx, k, y, fun S1 C fs gs e1 σ1 H1 d fx1 k1 x1 hd hr q => ?_, c.part join, ht⟩
    obtain ⟨hlen, b, hexm, hyes, hno⟩ := q
    refine ⟨b, hexm, fun hb1 a ha => ?_, fun hb1 => ?_⟩
    · have q1 := hyes hb1 a
      have s1 : Sub S S1 := x1.grow
      have x1' : VSt X.K ⟨S, H, fp⟩ S1 (cl σ1 e1 ++ []) H1 := by rw [List.append_nil]; exact x1
      obtain ⟨fp1, y1, join1⟩ := x1'.part
      have hl1 : σ1.length = σ.length := by rw [k1.len, k.len]; exact hlen
      have hi1 : i < σ1.length := by rw [hl1, k.len]; exact hi'
      obtain ⟨k2, x2⟩ := VSt.store (i := i) (v := .ref a) (o := .st (.kls a)) k1 hi1 (y1.addSt .kls)
      have toG : ∀ {S' H' : Hp} {Γ2 : Cl}, Sub S1 S' → VSt X.K ⟨S1, H1, fp1⟩ S' Γ2 H' → VSt X.K G S' Γ2 H' := fun {S' H' Γ2} s z => by
        have z1 := join1 S' H' Γ2 s z
        rw [List.append_nil] at z1
        have z2 := join S' H' Γ2 (s1.trans s) z1
        rw [List.append_nil] at z2
        exact z2
      refine ⟨S1, _, ⟨S1, H1, fp1⟩, C, fs, d, gs, _, rfl, rfl, hd, hr, fx1.set hio, k2, x2, ⟨fun S' env' σ' H' s l fx' k' x' q => ?_, fun S' env' σ' H' s l fx' k' x' q => ?_, fun S' env' σ' H' s l fx' k' x' q => ?_, fun S' o env' σ' v H' s l fx' k' x' q => ?_⟩, q1⟩
      · obtain ⟨⟨cc, pc⟩, k3⟩ := k'.wipe1 i
        refine c.nx S' _ (σ'.set i none) H' (s1.trans s) (by rw [List.length_set, l, List.length_set]; exact hl1) (fx'.set hio) k3 ?_ q
        exact ((toG s x').perm pc).dropL
      · obtain ⟨⟨cc, pc⟩, k3⟩ := k'.wipe1 i
        refine c.bk S' _ (σ'.set i none) H' (s1.trans s) (by rw [List.length_set, l, List.length_set]; exact hl1) (fx'.set hio) k3 ?_ q
        exact ((toG s x').perm pc).dropL
      · obtain ⟨⟨cc, pc⟩, k3⟩ := k'.wipe1 i
        refine c.ct S' _ (σ'.set i none) H' (s1.trans s) (by rw [List.length_set, l, List.length_set]; exact hl1) (fx'.set hio) k3 ?_ q
        exact ((toG s x').perm pc).dropL
      · exact c.rt S' o env' σ' v H' (s1.trans s) (by rw [l, List.length_set]; exact hl1) fx' k' (toG s x') q
    · have x2 := join S1 H1 _ x1.grow x1
      rw [List.append_nil] at x2
      exact wx.ex S1 C fs gs e1 σ1 H1 d fx1 k1 x2 hd hr (hno hb1)
end
end VL
-- V18
set_option maxHeartbeats 2000000
namespace VL
open PySem PySem.Spec PyProof.Rows L2
def putO (f : Str) (o : OD) : List (Str × OD) → List (Str × OD)
  | [] => [(f, o)]
  | (g, x) :: r => if g = f then (g, o) :: r else (g, x) :: putO f o r
section
variable {K : Fr} {G : Gh} {S H : Hp} {Γ : Cl} {w : V} {d : D} {p : Addr}
theorem OwnF.putSt (r : Rep K S w d) {f : Str} : ∀ {vs : List (Str × V)} {os : List (Str × OD)} {fp : List Addr}, OwnF K S H vs os fp → ∃ fp', OwnF K S H (putF f w vs) (putO f (.st d) os) fp' ∧ fp'.Sublist fp
  | _, _, _, .nil => ⟨[] ++ [], .cons (.st r) .nil, .refl _⟩
  | _, _, _, .cons (x := x) (f := g) (g := g2) h q => by
    unfold putF putO
    by_cases e : x = f
    · rw [if_pos e, if_pos e]
      exact ⟨[] ++ g2, .cons (.st r) q, List.sublist_append_right g g2⟩
    · rw [if_neg e, if_neg e]
      obtain ⟨fp', h', s⟩ := OwnF.putSt r (f := f) q
      exact ⟨g ++ fp', .cons h h', s.append_left g⟩
theorem OwnF.length : ∀ {vs : List (Str × V)} {os : List (Str × OD)} {f : List Addr}, OwnF K S H vs os f → vs.length = os.length
  | _, _, _, .nil => rfl
  | _, _, _, .cons _ r => congrArg (· + 1) (OwnF.length r)
theorem VSt.insAt {v : V} {C : Addr} {gs : List (Str × OD)} (x : VSt K G S ((v, .ins C gs) :: Γ) H) : ∃ p dx fs, v = .ref p ∧ H p = some (.ins C dx fs) ∧ fs.length = gs.length := by
  obtain ⟨fp, h, _⟩ := x.cls
  cases h with
  | cons h r => cases h with
    | ins e q =>
      exact ⟨_, _, _, rfl, e, q.length⟩
theorem VSt.setF {f : Str} {C dx : Addr} {gs : List (Str × OD)} {fs : List (Str × V)} (x : VSt K G S ((.ref p, .ins C gs) :: Γ) H) (e : H p = some (.ins C dx fs)) (r : Rep K S w d) : VSt K G S ((.ref p, .ins C (putO f (.st d) gs)) :: Γ) (upd H p (.ins C dx (putF f w fs))) := by
  obtain ⟨fp, h, nd, fr⟩ := x.cls
  cases h with
  | @cons _ _ _ _ g h q => cases h with
    | @ins _ _ dx' vs' _ ff e' l =>
      rw [e] at e'; cases e'
      obtain ⟨f', l', s⟩ := OwnF.putSt r (f := f) l
      have hsub : ((p :: f') ++ g).Sublist ((p :: ff) ++ g) := (s.cons₂ p).append_right g
      have nd' := hsub.nodup nd
      have np : p ∉ f' ++ g := (List.nodup_cons.mp nd').1
      exact x.wr (fr p (by simp)).1 (fr p (by simp)).2 (by rw [e]; exact fun z => nomatch z)
        (.cons (.ins upd_same (l'.off fun z => np (List.mem_append_left _ z))) (q.off fun z => np (List.mem_append_right _ z))) nd' fun a m => fr a (hsub.subset m)
theorem VSt.allocI {C dx : Addr} (x : VSt K G S Γ H) (hp : H p = none) : VSt K G S ((.ref p, .ins C []) :: Γ) (upd H p (.ins C dx [])) := by
  have y := x.extra (u := .ins C dx []) hp
  obtain ⟨fp, h, nd, fr⟩ := x.cls
  have np := h.np hp
  have h' := h.stay (S' := S) (H' := upd H p (.ins C dx [])) Sub.refl fun a m q e => by rw [upd_ne (ne_of_none e hp)]; exact e
  exact ⟨y.sub, y.keep, y.ioH, y.news, y.grow, (p :: []) ++ fp, .cons (.ins upd_same .nil) h', List.nodup_cons.mpr ⟨np, nd⟩, fun a m => by
    rcases List.mem_cons.mp m with rfl | m
    · exact ⟨x.freshS hp, .inl (x.fresh0 hp)⟩
    · exact fr a m⟩
end
section
variable {X : Cx} {G : Gh} {F : Fx} {K : Fr} {e o : Expr} {es : List Expr} {te : TE} {sa : TV} {tA : TA} {sL : TVL} {p pos pos' : Pos} {W : WX} {E : XQ} {f : Str} {C : Addr}
def sFldSet (i : Nat) (C : Addr) (f : Str) (s : TV) : TSV := fun D env => s env fun r e => r.asT fun o => match e[i]? with
  | some (some (.ins C' gs)) => C' = C ∧ gs.length < 1000 ∧ D.nx (e.set i (some (.ins C (putO f (.st (frz o)) gs))))
  | _ => False
theorem lk_fldSet {i : Nat} (hc : L2.Cls K C) (hn : NoAttr K C f) (he : Lk K G F te sa) : LkS K G F (L2.sFld K (tVar i) te f) (sFldSet i C f sa) := by
  intro S env σ H D E fx k x hh c
  refine he S [] env σ H _ _ fx k x hh fun S1 r e1 v H1 s1 k1 x1 b1 q1 => ?_
  obtain ⟨od, e, q⟩ := Rv.asT_inv q1
  subst e
  obtain ⟨S2, s2, x2⟩ := VSt.freeze x1
  split at q
  · rename_i C' gs ho
    obtain ⟨ec, hlen, q⟩ := q
    subst ec
    obtain ⟨w, h1, h2, h3⟩ := k1.take ho
    have y := x2.perm ((List.Perm.cons _ h2).trans (List.Perm.swap _ _ _))
    obtain ⟨p, dx, fs, ew, hp, hl⟩ := y.insAt
    subst ew
    have rv : Rep K S2 v (frz od) := y.drop.rep
    refine ⟨.ref p, h1, p, C', dx, fs, rfl, hp, hc, hn, by rw [hl]; exact hlen, ?_⟩
    have z := (y.perm (List.Perm.swap _ _ _)).drop.setF (f := f) hp rv
    have bk := h3.back (o := .ins C' (putO f (.st (frz od)) gs)) h1
    rw [List.set_set] at bk
    rw [List.set_set] at bk
    exact c.nx S2 _ σ _ (s1.trans s2) rfl fx bk.2 (z.perm bk.1.symm) q
  · exact q.elim
theorem s_fldSet {i : Nat} (hc : L2.Cls X.K C) (hn : NoAttr X.K C f) (ho : VE X G F o (tVar i) (sVar i)) (he : VE X G F e te sa) (hs : swapsWith e (some (.Attribute o f pos')) pos.line X.env = pure false := by rfl) : VS X G F (.Assign [.Attribute o f pos'] e pos) (L2.sFld X.K (tVar i) te f) (sFldSet i C f sa) :=
  ⟨ps_fld ho.pe he.pe hs, lk_fldSet hc hn he.lk⟩
def sCon (C : Addr) (d : D) (s : TV) : TV := fun env Q => s env fun r e => match r with
  | .t (.st (.kls C')) => C' = C ∧ Q (.t (.st d)) e
  | _ => False
theorem v_con {v : V} {u mc : Value} {d : D} (hr : ClX.CRead X.K C mc) (hv : ClX.CVal X.K C mc f v u) (sc : Sc v d) (he : VE X G F e te sa) (hb : attributeBase e f X.env (eval e X.env) = eval e X.env := by rfl) : VE X G F (.Attribute e f pos) (ClX.tCVal X.K te f) (sCon C d sa) :=
  ⟨ClX.pe_cval he.pe hb, fun S Γ env σ H Q P fx k x hh fin => he.lk S Γ env σ H _ _ fx k x hh fun S1 r e1 w H1 s1 k1 x1 b1 q1 => by
    cases r with
    | bor i => exact (q1 : False).elim
    | t o => cases o with
      | lst _ => exact (q1 : False).elim
      | ins _ _ => exact (q1 : False).elim
      | st d' =>
        cases d' <;> first | exact (q1 : False).elim | skip
        rename_i C'
        obtain ⟨ec, q2⟩ := (show C' = C ∧ Q (.t (.st d)) e1 from q1)
        subst ec
        have z := VSt.rep x1
        cases z
        exact ⟨C', mc, v, u, rfl, hr, hv, fin S1 (.t (.st d)) e1 v H1 s1 k1 (x1.drop.addSt (sc X.K S1)) trivial q2⟩⟩
theorem v_cls {x : Str} {C : Addr} (hg : Gl X x) (hm : X.mg x = some (.ref C)) (hd : (x == ("__debug__" : Str)) = false := by decide) : VE X G F (.Name x pos) (tC (.ref C)) (sD (.kls C)) := ⟨pe_glob hg hm rfl hd, lk_c fun _ => .kls⟩
def sMake (C : Addr) (Ci : Ctr) (s : TVL) : TV := fun env Q => s env fun rs e => match allT rs with
  | some os => Ci (.ins C [] :: os) (fun r os' => r = .st .non ∧ match os' with
    | .ins C' gs :: _ => Q (.t (.ins C' gs)) e
    | _ => False) fun _ _ _ => False
  | none => False
theorem lk_make {Ci : Ctr} (ha : LkA K G F tA sL) : Lk K G F (tMake C (VSp K Ci) [] (fun _ _ _ => False) tA) (sMake C Ci sL) := by
  intro S Γ env σ H Q P fx k x h fin
  refine ha S Γ env σ H _ _ fx k x h fun S1 rs e1 vs H1 s1 k1 x1 b1 h1 => ?_
  have h1' : (match allT rs with
    | some os => Ci (.ins C [] :: os) (fun r os' => r = .st .non ∧ match os' with
      | .ins C' gs :: _ => Q (.t (.ins C' gs)) e1
      | _ => False) fun _ _ _ => False
    | none => False) := h1
  split at h1'
  · rename_i os ho
    obtain ⟨h3, h4⟩ := allT_rcl ho b1
    rw [h3] at x1
    intro q dx hq hdx hne
    have x2 := x1.extra (u := .own q) hdx
    have hq2 : upd H1 dx (.own q) q = none := by rw [upd_ne (Ne.symm hne)]; exact hq
    have x3 := x2.allocI (C := C) (dx := dx) hq2
    have x4 : VSt K G S1 (((V.ref q :: vs).zip (OD.ins C [] :: os)) ++ (Γ ++ cl σ e1)) (upd (upd H1 dx (.own q)) q (.ins C dx [])) := x3
    obtain ⟨fp, y, join⟩ := x4.part
    refine ⟨S1, .ins C [] :: os, fp, _, _, by rw [List.append_nil]; exact congrArg (· + 1) h4, by rw [List.append_nil]; exact y, h1', fun r os' S' v H' hq' s z => ?_, fun c fs os' S' d gs H' q s z hd hr => q.elim⟩
    obtain ⟨er, hq'⟩ := hq'
    subst er
    have x5 := join S' H' _ s z
    have ev : v = .non := by
      have := VSt.rep x5
      cases this; rfl
    refine ⟨ev, ?_⟩
    match os', hq', x5 with
    | .ins C' gs :: os2, hq', x5 =>
      refine fin S' (.t (.ins C' gs)) e1 (.ref q) H' (s1.trans s) k1 ?_ trivial hq'
      rw [List.append_nil] at x5
      have x6 : VSt K G S' ((V.ref q, OD.ins C' gs) :: (vs.zip os2 ++ (Γ ++ cl σ e1))) H' := VSt.drop x5
      exact (x6.perm (List.perm_middle (l₁ := vs.zip os2)).symm).dropL
  · exact h1'.elim
theorem v_make {x : Str} {k : Nat} {fI : Addr} {fd : FuncData} {ps : List Str} {Ci : Ctr} (wx : L2N.Takes X (fun _ _ _ _ => False)) (M : Mk X.K C fI) (Fn : FnOk X.prog X.w X.K X.mg X.base (L2N.CX X.prog X.w) k fI fd ps (VSp X.K Ci)) (hr : Room (k + 1) X.A) (hg : Gl X x) (hm : X.mg x = some (.ref C)) (hb : Binds X.K fd ps []) (ha : VA X G F (e :: es) tA sL)
    (hdb : (x == ("__debug__" : Str)) = false := by decide) (he : starEach (e :: es) X.env = (false, eval e X.env) :: starEach es X.env := by rfl) (hpl : (backTo pos (starEach es X.env)).any (·.1) = false := by rfl) :
    VE X G F (.Call (.Name x p) (e :: es) [] pos) (tMake C (VSp X.K Ci) [] (fun _ _ _ => False) tA) (sMake C Ci sL) :=
  ⟨pe_make M Fn hr hg hm hb .nil (fun pins σ H s e s' I c => wx e s' (L2N.XE.of_call I (fun _ _ _ h => h.elim) c)) ha.pa hdb he hpl, lk_make ha.lk⟩
theorem takesF {X : Cx} {W : WX} (tk : L2N.Takes X W) : L2N.Takes X (fun _ _ _ _ => False) := tk.imp fun _ _ _ _ h => h.elim
def sCallD (C : Ctr) (E : XQ) (dds : List D) (s : TVL) : TV := fun env Q => s env fun rs e => match takeL rs e with
  | some (os, e') => C (os ++ dds.map .st) (fun r os' => match giveL rs os' e' with
    | some e2 => Q (.t r) e2
    | none => False) (fun c fs os' => match giveL rs os' e' with
    | some e2 => E c fs e2
    | none => False)
  | none => False
theorem VSt.addL {S H : Hp} {Γ : Cl} : ∀ {vs : List V} {ds : List D}, RepL K S vs ds → VSt K G S Γ H → VSt K G S (vs.zip (ds.map OD.st) ++ Γ) H
  | [], [], _, x => x
  | _ :: _, _ :: _, .cons h r, x => (VSt.addL r x).addSt h
theorem zip_pre {α β : Type} : ∀ (vs ws : List α) (os : List β), ∃ l, (vs ++ ws).zip os = vs.zip os ++ l
  | [], ws, os => ⟨ws.zip os, by simp⟩
  | v :: vs, ws, [] => ⟨[], by simp⟩
  | v :: vs, ws, o :: os => by
    obtain ⟨l, e⟩ := zip_pre vs ws os
    exact ⟨l, by show (v, o) :: (vs ++ ws).zip os = _; rw [e]; rfl⟩
theorem lk_callD {C : Ctr} {dvs : List V} {dds : List D} (hdv : ∀ S, RepL X.K S dvs dds) (wx : Wx X G F W E) (ha : LkA X.K G F tA sL) : Lk X.K G F (tCallSD (VSp X.K C) dvs (WE W) tA) (sCallD C E dds sL) := by
  intro S Γ env σ H Q P fx k x h fin
  refine ha S Γ env σ H _ _ fx k x h fun S1 rs e1 vs H1 s1 k1 x1 b1 h1 => ?_
  split at h1
  · rename_i os e2 ht
    obtain ⟨k2, x2, l2⟩ := take_cl k1 x1 b1 ht
    have x2a : VSt X.K G S1 ((vs ++ dvs).zip (os ++ dds.map .st) ++ (Γ ++ cl σ e2)) H1 := by
      rw [List.zip_append l2]
      have y := VSt.addL (hdv S1) x2
      refine y.perm ?_
      rw [← List.append_assoc]
      exact List.perm_append_comm.append_right _
    obtain ⟨fp, y, join⟩ := x2a.part
    refine ⟨S1, os ++ dds.map .st, fp, _, _, by rw [List.length_append, List.length_append, l2, List.length_map, (hdv S1).length], y, h1, fun r os' S' v H' q s z => ?_, fun c fs os' S' d gs H' q s z hd hr => ?_⟩
    · split at q
      · rename_i e3 hg
        have x3 := join S' H' _ s z
        obtain ⟨l, el⟩ := zip_pre vs dvs os'
        rw [el] at x3
        have x3b : VSt X.K G S' (l ++ (vs.zip os' ++ ((v, r) :: (Γ ++ cl σ e2)))) H' := x3.perm (by
          show ((v, r) :: ((vs.zip os' ++ l) ++ (Γ ++ cl σ e2))).Perm _
          have a1 : ((vs.zip os' ++ l) ++ (Γ ++ cl σ e2)).Perm (l ++ (vs.zip os' ++ (Γ ++ cl σ e2))) := by
            rw [← List.append_assoc l]
            exact List.perm_append_comm.append_right _
          refine (a1.cons _).trans ?_
          refine List.perm_middle.symm.trans ?_
          exact (List.perm_middle.symm).append_left l)
        obtain ⟨k3, x4⟩ := give_cl (Γ := (v, r) :: Γ) k2 x3b.dropL b1 hg
        exact fin S' (.t r) e3 v H' (s1.trans s) k3 x4 trivial q
      · exact q.elim
    · split at q
      · rename_i e3 hg
        have x3 := join S' H' _ s z
        obtain ⟨l, el⟩ := zip_pre vs dvs os'
        rw [el] at x3
        have x3b : VSt X.K G S' (l ++ (vs.zip os' ++ (Γ ++ cl σ e2))) H' := x3.perm (by
          rw [← List.append_assoc l]
          exact List.perm_append_comm.append_right _)
        obtain ⟨k3, x4⟩ := give_cl (Γ := Γ) k2 x3b.dropL b1 hg
        exact wx.ex S' c fs gs e3 σ H' d fx k3 x4.dropL hd hr q
      · exact q.elim
  · exact h1.elim
def OkD (P : Program) (w : World) (K : Fr) (mg : Str → Option Value) (base : Heap) (x : Str) (ps : List Str) (k : Nat) (C : Ctr) (dds : List D) : Prop :=
  ∃ fd dvs ds, FnOk P w K mg base (L2N.CX P w) k (He.ga K x) fd ps (VSp K C) ∧ mg x = some (.ref (He.ga K x)) ∧ PySem.W.keepIn K (.ref (He.ga K x)) = true ∧ Vals dvs ds ∧ Binds K fd ps ds ∧ ∀ S, RepL K S dvs dds
theorem v_callD {x : Str} {k : Nat} {ps : List Str} {C : Ctr} {dds : List D} (wx : Wx X G F W E) (O : OkD X.prog X.w X.K X.mg X.base x ps k C dds) (hr : Room k X.A) (hg : Gl X x) (ha : VA X G F (e :: es) tA sL)
    (hdb : (x == ("__debug__" : Str)) = false := by decide) (he : starEach (e :: es) X.env = (false, eval e X.env) :: starEach es X.env := by rfl) (hpl : (backTo pos (starEach es X.env)).any (·.1) = false := by rfl) :
    ∃ t, VE X G F (.Call (.Name x p) (e :: es) [] pos) t (sCallD C E dds sL) := by
  obtain ⟨fd, dvs, ds, h1, h2, h3, h4, h5, h6⟩ := O
  exact ⟨_, pe_callSD h1 hr hg h2 h3 h5 h4 (fun σ => L2N.passAt wx.tk σ) ha.pa hdb he hpl, lk_callD h6 wx ha.lk⟩
end
section
variable {P : Program} {w : World} {K : Fr} {mg : Str → Option Value} {base : Heap}
def Okf (P : Program) (w : World) (K : Fr) (mg : Str → Option Value) (base : Heap) (x : Str) (st : Stmt) (dvs : List V) (kws : List (Str × V)) (ps : List Str) (k : Nat) (C : Ctr) : Prop :=
  ∃ fd, FunD K x x (defArgs st) (defBody st) (defScope st) dvs kws (He.ga K x) fd ∧ FnOk P w K mg base (L2N.CX P w) k (He.ga K x) fd ps (VSp K C) ∧ mg x = some (.ref (He.ga K x))
theorem okf_of {x : Str} {st : Stmt} {dvs : List V} {kws : List (Str × V)} {N ps : List Str} {k : Nat} {C : Ctr} (ios : List Nat) (T : Dfn K mg x st dvs kws) (Sc : FnScope N ps (defScope st)) (len : ∀ os Q E, C os Q E → os.length = ps.length)
    (hbody : ∀ (cdv : Value) (A : Around) (outer : List Env) (s : Shared) (H : Hp) (G : Gh) (s0 : L2.St) (E : XK) (os : List OD) (Q1 : OD → List OD → Prop) (E1 : Addr → List (Str × D) → List OD → Prop), Room k (A.deeper (envOfC x (defScope st) s.heap.objs.size (He.ga K x) cdv)) → C os Q1 E1 →
      Wx (cxOf (L2N.CX P w) P w K mg base N x (defScope st) (He.ga K x) cdv A outer s H E) G ⟨ios, s0⟩ (fun cls d _ H => E cls d H) (exq ios os E1) →
      ∃ ts t, VB (cxOf (L2N.CX P w) P w K mg base N x (defScope st) (He.ga K x) cdv A outer s H E) G ⟨ios, s0⟩ (defBody st) ts t ∧ t (ends ios os Q1) (en0 N os)) : Okf P w K mg base x st dvs kws ps (k + 1) C := by
  obtain ⟨⟨fd, Fd⟩, hm⟩ := T
  exact ⟨fd, Fd, def_of ios Fd Sc len hbody, hm⟩
theorem Okf.all {x : Str} {st : Stmt} {dvs : List V} {kws : List (Str × V)} {ps : List Str} {k : Nat} {C : Ctr} (O : Okf P w K mg base x st dvs kws ps k C) (hb : ∀ fd, FunD K x x (defArgs st) (defBody st) (defScope st) dvs kws (He.ga K x) fd → Binds K fd ps []) : Ok P w K mg base x ps k C := by
  obtain ⟨fd, Fd, F, hm⟩ := O
  exact ⟨fd, F, hm, Fd.kp, hb fd Fd⟩
theorem Okf.dfl {x : Str} {st : Stmt} {dvs : List V} {kws : List (Str × V)} {ps : List Str} {k : Nat} {C : Ctr} (vs : List V) (dds : List D) (O : Okf P w K mg base x st dvs kws ps k C) (hr : ∀ S, RepL K S vs dds) (hb : ∀ fd, FunD K x x (defArgs st) (defBody st) (defScope st) dvs kws (He.ga K x) fd → ∃ ds, Vals vs ds ∧ Binds K fd ps ds) : OkD P w K mg base x ps k C dds := by
  obtain ⟨fd, Fd, F, hm⟩ := O
  obtain ⟨ds, h1, h2⟩ := hb fd Fd
  exact ⟨fd, vs, ds, F, hm, Fd.kp, h1, h2, hr⟩
end
end VL
-- V19
set_option maxHeartbeats 2000000
namespace VL
open PySem PySem.Spec PyProof.Rows L2
def IsTI (h : Heap) (v : Value) (ns : List Int) : Prop := ∃ (a : Addr) (o : Obj) (us : Array Value) (n : Nat), v = .ref a ∧ h.get? a = some o ∧ o.cls = .type "tuple" ∧ o.data = .seq us n ∧ IntsAre us.toList ns
theorem IsTI.keeps {h h' : Heap} {v : Value} {ns : List Int} (x : IsTI h v ns) (k : ∀ b o, h.get? b = some o → o.cls = .type "tuple" → h'.get? b = some o) : IsTI h' v ns := by
  obtain ⟨a, o, us, n, e, g, c, d, i⟩ := x
  exact ⟨a, o, us, n, e, k _ _ g c, c, d, i⟩
section
variable {prog : Program} {w : World} {A : Around} {E : Value → Shared → Prop} {s : Shared}
theorem katI {b fin : Bool} {Q : Bool → Shared → Prop} : ∀ {xs ys : List Value} {ns ms : List Int} {i : Nat}, IntsAre xs ns → IntsAre ys ms → (xs.length = ys.length → fin = false) → (xs.length < ys.length → fin = true) → (ys.length < xs.length → fin = false) → Q (HT.lexLt ns ms) s →
    PySem.W.KatLex prog w A b fin Q (xs.zip ys) i s
  | _, _, _, _, _, .nil, .nil, h1, h2, h3, q => by
    rw [HT.lexLt_nil_nil] at q
    exact PySem.W.kat_nil (by rw [h1 rfl]; exact q)
  | _, _, _, _, _, .nil, .cons m u hm, h1, h2, h3, q => by
    rw [HT.lexLt_nil_cons] at q
    exact PySem.W.kat_nil (by rw [h2 (by simp)]; exact q)
  | _, _, _, _, _, .cons n t hn, .nil, h1, h2, h3, q => by
    rw [HT.lexLt_cons_nil] at q
    exact PySem.W.kat_nil (by rw [h3 (by simp)]; exact q)
  | _, _, _, _, i, .cons n t hn, .cons m u hm, h1, h2, h3, q => by
    rw [HT.lexLt_cons] at q
    refine PySem.W.kat_cons (SeqAt.EqAt.int_int n t m u prog w _ _ ?_)
    refine PySem.W.kat_go (fun e1 => ?_) (fun e1 => ?_)
    · have ex : n = m := by simpa using e1
      rw [if_pos ex] at q
      exact PySem.W.kat_yes (katI hn hm (fun z => h1 (by simp [z])) (fun z => h2 (by simpa using z)) (fun z => h3 (by simpa using z)) q)
    · have ex : ¬ n = m := by simpa using e1
      rw [if_neg ex] at q
      exact PySem.W.kat_no (TS.oneLt_ints _ q)
theorem tups_cmp {vs : List Value} {k : Value → List Int} (hp : ∀ v ∈ vs, IsTI s.heap v (k v)) : SrtO.Cmp prog w A s (tuples' true) (fun p => p.1 ∈ vs) (SrtO.lt2 fun v u => HT.lexLt (k v) (k u)) := by
  intro p q hm hm'
  have h1 := hp _ hm
  have h2 := hp _ hm'
  show wpAny (model prog w) A (keyLt' (tuples' true) p.1 q.1) (fun r s' => s' = s ∧ r = HT.lexLt (k p.1) (k q.1)) (fun _ _ => False) s
  obtain ⟨a, o, us, n, e, ho, hc, hd, i1⟩ := h1
  obtain ⟨a', o', us', n', e', ho', hc', hd', i2⟩ := h2
  rw [e] at i1 ⊢
  rw [e'] at i2 ⊢
  refine PySem.W.kat_lt ho hd ho' hd' ?_
  refine katI i1 i2 (fun z => ?_) (fun z => ?_) (fun z => ?_) ⟨rfl, rfl⟩
  · have : us.size = us'.size := by simpa using z
    exact decide_eq_false (by omega)
  · have : us.size < us'.size := by simpa using z
    exact decide_eq_true this
  · have : us'.size < us.size := by simpa using z
    exact decide_eq_false (by omega)
theorem firstsI {h : Heap} : ∀ {vs : List Value}, (∀ v ∈ vs, ∃ ns, ns ≠ [] ∧ IsTI h v ns) → ∃ fs : List Value, PySem.W.KatTups h vs fs ∧ fs.length = vs.length ∧ ∀ f ∈ fs, ∃ x t, f = Value.int x t
  | [], _ => ⟨[], PySem.W.KatTups.nil, rfl, fun _ hm => by simp at hm⟩
  | v :: vs, hp => by
    obtain ⟨fs, h1, h2, h3⟩ := firstsI (vs := vs) fun v' hm => hp v' (List.mem_cons_of_mem _ hm)
    obtain ⟨ns, hne, a, o, us, n, e, ho, hc, hd, hi⟩ := hp v (List.mem_cons_self ..)
    subst e
    generalize hl : us.toList = l at hi
    cases hi with
    | nil => exact absurd rfl hne
    | cons x t r =>
      have h0 : us[0]? = some (.int x t) := by
        rw [← Array.getElem?_toList, hl]; rfl
      refine ⟨.int x t :: fs, PySem.W.KatTups.cons ho hc hd h0 h1, by rw [List.length_cons, List.length_cons, h2], fun f hm => ?_⟩
      rcases List.mem_cons.mp hm with rfl | hm
      · exact ⟨x, t, rfl⟩
      · exact h3 f hm
theorem tups_sortable {a : Addr} {vs : List Value} {k : Value → List Int} (h0 : 0 < vs.length) (hp : ∀ v ∈ vs, IsTI s.heap v (k v)) (hne : ∀ v ∈ vs, k v ≠ []) (ha : ∀ o, s.heap.get? a = some o → o.cls ≠ .type "tuple") : SrtO.SortableO prog w A s a vs fun v u => HT.lexLt (k v) (k u) := by
  intro h' keep
  have hp' : ∀ v ∈ vs, IsTI h' v (k v) := fun v hm => (hp v hm).keeps fun b o e c => keep b o (fun z => by subst z; exact ha o e c) e
  obtain ⟨fs, h1, h2, h3⟩ := firstsI fun v hm => ⟨_, hne v hm, hp' v hm⟩
  refine ⟨tuples' true, fun Q E hq => ?_, tups_cmp hp'⟩
  refine PySem.W.kat_kind (T := .type "int") h1 (by omega) (fun f hm => ?_) (by rfl) ?_
  · obtain ⟨x, t, rfl⟩ := h3 f hm
    exact PySem.W.Looks.now
  · have e : (Value.type "int" != Value.type "tuple") = true := by first | decide +kernel | rfl | decide
    rw [e]
    exact hq
theorem sorted_tups {l : Addr} {vs : List Value} {k : Value → List Int} {Q : Value → Shared → Prop} (hl : s.heap.IsList l vs.toArray) (hz : vs.length ≤ sizeLine) (hp : ∀ v ∈ vs, IsTI s.heap v (k v)) (hne : ∀ v ∈ vs, k v ≠ [])
    (h : ∀ (h' : Heap) (d : Addr) (out : List Value), SrtO.Srtd (fun v u => HT.lexLt (k v) (k u)) out → SrtO.Stb (fun v u => HT.lexLt (k v) (k u)) out vs → (∀ b o, s.heap.get? b = some o → h'.get? b = some o) → s.heap.objs.size ≤ d → (∃ n, h'.get? d = some (PyProof.Rows.seqObj "list" out.toArray n)) → Q (.ref d) { s with heap := h' }) :
    wpAny (model prog w) A (call (.builtin "sorted") [.ref l]) Q E s := by
  refine SrtO.sorted_ord (NtL.swo_lexL k) hl hz (fun h2 h₁ a ha kk => ?_) fun out hs hb => ?_
  · refine tups_sortable (s := { s with heap := h₁ }) (by omega) (fun v hm => (hp v hm).keeps fun b o e _ => (kk b o e).2) hne fun o e => ?_
    have e' : some o = some (PyProof.Rows.seqObj "list" vs.toArray 0) := e.symm.trans ha
    cases e'
    intro c
    exact absurd (Value.type.inj c) (by decide)
  · exact h _ _ out hs hb (fun b o e => PyProof.Rows.sortedAll_old e) (Nat.le_succ _) (PyProof.Rows.sortedAll_at s.heap vs out.toArray)
end
theorem ints_inj : ∀ {ns ms : List Int}, ns.map V.int = ms.map V.int → ns = ms
  | [], [], _ => rfl
  | n :: ns, m :: ms, h => by
    injection h with h1 h2
    injection h1 with h1
    rw [h1, ints_inj h2]
  | [], _ :: _, h => by cases h
  | _ :: _, [], h => by cases h
def rSortedTI (K : Fr) : List V → Hp → VK → Prop := fun vs H Q => ∃ (a : Addr) (xs : List V), vs = [V.ref a] ∧ SqL K H a xs ∧ (∀ x ∈ xs, ∃ (t : Addr) (ns : List Int), x = V.ref t ∧ ns ≠ [] ∧ SqT K H t (ns.map V.int)) ∧
  ∀ ys p, ys.Perm xs → ys.Pairwise (fun x y => ∀ (t u : Addr) (ns ms : List Int), x = V.ref t → y = V.ref u → SqT K H t (ns.map V.int) → SqT K H u (ms.map V.int) → HT.lexLt ms ns = false) → H p = none → Q (.ref p) (upd H p (.lst ys))
section
variable {X : Cx}
open Classical in
theorem cr_sortedTI : CallR X (.builtin "sorted") (rSortedTI X.K) := by
  intro pins s σ H vs us Q I r h
  obtain ⟨a, xs, rfl, hs, hx, q⟩ := h
  obtain ⟨its, rv, hl, hz⟩ := I.list hs
  obtain ⟨u, rfl, ru⟩ := vals1 r
  obtain rfl : u = Value.ref a := ru
  obtain ⟨e1, e2⟩ := refs_back rv fun x m => by
    obtain ⟨t, _, e, _⟩ := hx x m
    exact ⟨t, e⟩
  let kA : Value → List Int := fun v => if h : ∃ (ns : List Int) (t : Addr), v = Value.ref t ∧ SqT X.K H t (ns.map V.int) then Classical.choose h else []
  have kA_eq : ∀ {t : Addr} {ns : List Int}, SqT X.K H t (ns.map V.int) → kA (.ref t) = ns := fun {t ns} ht => by
    have h : ∃ (ns : List Int) (t' : Addr), Value.ref t = Value.ref t' ∧ SqT X.K H t' (ns.map V.int) := ⟨ns, t, rfl, ht⟩
    have e : kA (.ref t) = Classical.choose h := dif_pos h
    rw [e]
    obtain ⟨t', e3, e4⟩ := Classical.choose_spec h
    have e5 : t' = t := (Value.ref.inj e3).symm
    subst e5
    exact ints_inj (I.tuple_inj e4 ht)
  refine sorted_tups (k := kA) hl.isList (by rw [← rv.length]; exact hz) (fun v hv => ?_) (fun v hv => ?_) fun h' d out h1 h2 kp hd hn => ?_
  · obtain ⟨t, rfl⟩ := e2 v hv
    have hm : V.ref t ∈ xs := by rw [e1]; exact List.mem_map.mpr ⟨_, hv, rfl⟩
    obtain ⟨t', ns, e, hne, ht⟩ := hx _ hm
    cases e
    rw [kA_eq ht]
    obtain ⟨its2, r2, p2, _⟩ := I.tuple ht
    obtain ⟨o, ho, hc, n, hd⟩ := p2
    exact ⟨t, o, its2.toArray, n, rfl, ho, hc, hd, intsAre_of r2⟩
  · obtain ⟨t, rfl⟩ := e2 v hv
    have hm : V.ref t ∈ xs := by rw [e1]; exact List.mem_map.mpr ⟨_, hv, rfl⟩
    obtain ⟨t', ns, e, hne, ht⟩ := hx _ hm
    cases e
    rw [kA_eq ht]
    exact hne
  · have h3 : ∀ u ∈ out, ∃ a, u = Value.ref a := fun u hu => e2 u (h2.perm.mem_iff.mp hu)
    obtain ⟨n, hn⟩ := hn
    have hperm : (out.map backV).Perm xs := by rw [e1]; exact h2.perm.map backV
    refine ⟨.ref d, upd H d (.lst (out.map backV)), I.laid (t' := s.toks) kp hd ⟨?_, out, n, vals_back h3, hn⟩, rfl, q _ d hperm ?_ (I.hok.fresh hd)⟩
    · rw [hperm.length_eq]; exact hz
    · rw [List.pairwise_map]
      refine List.Pairwise.imp_of_mem (fun {x y} mx my hxy => ?_) h1
      intro t u ns ms e3 e4 ht hu
      obtain ⟨t', rfl⟩ := h3 x mx
      obtain ⟨u', rfl⟩ := h3 y my
      cases e3; cases e4
      rw [← kA_eq ht, ← kA_eq hu]
      exact hxy
end
theorem RepL.perm {K : Fr} {S : Hp} {vs ws : List V} (p : ws.Perm vs) : ∀ {ds : List D}, RepL K S vs ds → ∃ es, es.Perm ds ∧ RepL K S ws es := by
  induction p with
  | nil => intro ds h; exact ⟨ds, .refl _, h⟩
  | cons x _ ih =>
    intro ds h
    cases h with
    | cons h r =>
      obtain ⟨es, pe, he⟩ := ih r
      exact ⟨_, pe.cons _, .cons h he⟩
  | swap x y l =>
    intro ds h
    cases h with
    | cons h r => cases r with
      | cons h2 r => exact ⟨_, List.Perm.swap _ _ _, .cons h2 (.cons h r)⟩
  | trans _ _ i1 i2 =>
    intro ds h
    obtain ⟨es, pe, he⟩ := i2 h
    obtain ⟨fs, pf, hf⟩ := i1 he
    exact ⟨fs, pf.trans pe, hf⟩
def tupI (ns : List Int) : D := .tup (ns.map .int)
section
variable {X : Cx} {G : Gh} {F : Fx} {K : Fr} {e : Expr} {tA : TA} {sL : TVL} {pos p : Pos}
theorem perm_map {α β : Type} {f : α → β} : ∀ {l : List β} {m : List α}, l.Perm (m.map f) → ∃ l' : List α, l = l'.map f ∧ l'.Perm m := fun {l m} h => by
  generalize hm : m.map f = fm at h
  induction h generalizing m with
  | nil =>
    exact ⟨m, hm.symm, .refl _⟩
  | cons x _ ih =>
    cases m with
    | nil => cases hm
    | cons y m =>
      injection hm with h1 h2
      obtain ⟨l', e, p⟩ := ih h2
      exact ⟨y :: l', by rw [e, ← h1]; rfl, p.cons y⟩
  | swap x y l =>
    cases m with
    | nil => cases hm
    | cons z m =>
      cases m with
      | nil => injection hm with _ h; cases h
      | cons z2 m =>
        injection hm with h1 h2
        injection h2 with h2 h3
        exact ⟨z2 :: z :: m, by rw [← h1, ← h2, ← h3]; rfl, List.Perm.swap _ _ _⟩
  | trans _ _ i1 i2 =>
    obtain ⟨l2, e2, p2⟩ := i2 hm
    obtain ⟨l1, e1, p1⟩ := i1 e2.symm
    exact ⟨l1, e1, p1.trans p2⟩
theorem tupI_inv {S : Hp} {v : V} {ns : List Int} (r : Rep K S v (tupI ns)) : ∃ t, v = .ref t ∧ SqT K S t (ns.map V.int) := by
  cases r with
  | tup h r =>
    have := r.ints_inv
    subst this
    exact ⟨_, rfl, h.sq⟩
def sSortedT (s : TVL) : TV := fun env Q => s env fun rs e => match rs with
  | [r] => (match itm e r with
    | some (false, l) => ∃ nss : List (List Int), l = nss.map tupI ∧ (∀ ns ∈ nss, ns ≠ []) ∧ ∀ nss' : List (List Int), nss'.Perm nss → nss'.Pairwise (fun a b => HT.lexLt b a = false) → Q (.t (.lst ((nss'.map tupI).map .st))) e
    | _ => False)
  | _ => False
theorem pairRep {S : Hp} {R : V → V → Prop} (h : ∀ (x y : V) (t u : Addr) (ns ms : List Int), R x y → x = V.ref t → y = V.ref u → SqT K S t (ns.map V.int) → SqT K S u (ms.map V.int) → HT.lexLt ms ns = false) : ∀ {ys : List V} {nss : List (List Int)}, RepL K S ys (nss.map tupI) → ys.Pairwise R → nss.Pairwise (fun a b => HT.lexLt b a = false)
  | [], [], _, _ => .nil
  | y :: ys, ns :: nss, .cons r q, hp => by
    obtain ⟨hp1, hp2⟩ := List.pairwise_cons.mp hp
    refine .cons (fun ms hms => ?_) (pairRep h q hp2)
    obtain ⟨i, hi⟩ := List.getElem?_of_mem hms
    obtain ⟨w, hw, rw'⟩ := q.get (i := i) (d := tupI ms) (by rw [List.getElem?_map, hi]; rfl)
    obtain ⟨t, e1, q1⟩ := tupI_inv r
    obtain ⟨u, e2, q2⟩ := tupI_inv rw'
    exact h y w t u ns ms (hp1 w (List.mem_of_getElem? hw)) e1 e2 q1 q2
  | [], _ :: _, q, _ => by cases q
  | _ :: _, [], q, _ => by cases q
theorem lk_sortedT (ha : LkA K G F tA sL) : Lk K G F (tCB (rSortedTI K) tA) (sSortedT sL) := by
  intro S Γ env σ H Q P fx k x h fin
  refine ha S Γ env σ H _ _ fx k x h fun S1 rs e1 vs H1 s1 k1 x1 b1 h1 => ?_
  match rs, b1, h1, x1 with
  | [r], b1, h1, x1 =>
    obtain ⟨v, ev, bv⟩ := bokL1 b1
    subst ev
    rw [rcl1] at x1
    have h1' : (match itm e1 r with
      | some (false, l) => ∃ nss : List (List Int), l = nss.map tupI ∧ (∀ ns ∈ nss, ns ≠ []) ∧ ∀ nss' : List (List Int), nss'.Perm nss → nss'.Pairwise (fun a b => HT.lexLt b a = false) → Q (.t (.lst ((nss'.map tupI).map .st))) e1
      | _ => False) := h1
    split at h1'
    · rename_i l hi
      obtain ⟨nss, e, hne, h2⟩ := h1'
      subst e
      obtain ⟨a, xs, ea, q1, _, rr⟩ := itm_rep k1 x1 bv hi
      subst ea
      refine ⟨a, xs, rfl, q1 rfl, fun v hv => ?_, fun ys p pm pw hp => ?_⟩
      · obtain ⟨i, hi⟩ := List.getElem?_of_mem hv
        obtain ⟨d, hd, rd⟩ := rr.getV hi
        rw [List.getElem?_map] at hd
        cases hn : nss[i]? with
        | none => rw [hn] at hd; cases hd
        | some ns =>
          rw [hn] at hd; cases hd
          obtain ⟨t, e1, q1⟩ := tupI_inv rd
          exact ⟨t, ns, e1, hne ns (List.mem_of_getElem? hn), SqT.mono x1.sub q1⟩
      · obtain ⟨es, pe, he⟩ := RepL.perm pm rr
        obtain ⟨nss', ee, pp⟩ := perm_map pe
        subst ee
        have hpw : nss'.Pairwise (fun a b => HT.lexLt b a = false) := pairRep (K := K) (S := H1) (fun x y t u ns ms hR ex ey q1 q2 => hR t u ns ms ex ey q1 q2) (he.mono x1.sub) pw
        exact fin S1 (.t (.lst ((nss'.map tupI).map .st))) e1 _ _ s1 k1 (x1.dropL.allocF he hp) trivial (h2 nss' pp hpw)
    · exact h1'.elim
theorem v_sortedT {x : Str} (hg : Gl X x) (hm : X.mg x = none) (hv : bootBuiltins x = some (.builtin "sorted")) (ha : VA X G F [e] tA sL) (hn : x ≠ "__name__" := by decide) (hdb : (x == ("__debug__" : Str)) = false := by decide)
    (he : starEach [e] X.env = (false, eval e X.env) :: starEach [] X.env := by rfl) (hpl : (backTo pos (starEach [] X.env)).any (·.1) = false := by rfl) : VE X G F (.Call (.Name x p) [e] [] pos) (tCB (rSortedTI X.K) tA) (sSortedT sL) := v_callBF cr_sortedTI (lk_sortedT ha.lk) hg hm hv ha hn hdb he hpl
end
end VL
-- V20
set_option maxHeartbeats 1000000
namespace VL
open PySem PySem.Spec PyProof.Rows L2
theorem bt_len : bootBuiltins "len" = some (.builtin "len") := by decide +kernel
theorem bt_sum : bootBuiltins "sum" = some (.builtin "sum") := by decide +kernel
theorem bt_max : bootBuiltins "max" = some (.builtin "max") := by decide +kernel
theorem bt_min : bootBuiltins "min" = some (.builtin "min") := by decide +kernel
theorem bt_abs : bootBuiltins "abs" = some (.builtin "abs") := by decide +kernel
theorem bt_int : bootBuiltins "int" = some (.type "int") := by decide +kernel
theorem bt_list : bootBuiltins "list" = some (.type "list") := by decide +kernel
theorem bt_tuple : bootBuiltins "tuple" = some (.type "tuple") := by decide +kernel
theorem bt_bool : bootBuiltins "bool" = some (.type "bool") := by decide +kernel
theorem bt_str : bootBuiltins "str" = some (.type "str") := by decide +kernel
theorem bt_sorted : bootBuiltins "sorted" = some (.builtin "sorted") := by decide +kernel
theorem bt_isinstance : bootBuiltins "isinstance" = some (.builtin "isinstance") := by decide +kernel
theorem bt_VE : bootBuiltins "ValueError" = some (.type "ValueError") := by decide +kernel
section
variable {X : Cx} {G : Gh} {F : Fx} {K : Fr} {a b c e : Expr} {es rest : List Expr} {ta tb tc te : TE} {tA : TA} {tt tu : TT} {sa sb sc : TV} {ss su : TB} {sL : TVL} {pos p : Pos}
abbrev tLen (K : Fr) (tA : TA) : TE := tCB (fun xs H Q => ∃ x n, xs = [x] ∧ LenV K x H n ∧ Q (.int n) H) tA
theorem v_len (hg : Gl X "len") (hm : X.mg "len" = none) (ha : VA X G F [e] tA sL) (he : starEach [e] X.env = (false, eval e X.env) :: starEach [] X.env := by rfl) (hpl : (backTo pos (starEach [] X.env)).any (·.1) = false := by rfl) :
    VE X G F (.Call (.Name "len" p) [e] [] pos) (tLen X.K tA) (sCb gLen sL) := v_callB call_len cb_len hg hm bt_len ha (by decide) (by decide) he hpl
abbrev tInt1 (tA : TA) : TE := tCB (fun xs H Q => (∃ i, xs = [.int i] ∧ Q (.int i) H) ∨ ∃ k, xs = [.bl k] ∧ Q (.int (if k then 1 else 0)) H) tA
theorem v_int1 (hg : Gl X "int") (hm : X.mg "int" = none) (ha : VA X G F [e] tA sL) (he : starEach [e] X.env = (false, eval e X.env) :: starEach [] X.env := by rfl) (hpl : (backTo pos (starEach [] X.env)).any (·.1) = false := by rfl) :
    VE X G F (.Call (.Name "int" p) [e] [] pos) (tInt1 tA) (sCb gInt1 sL) := v_callT call_int1 cb_int hg hm bt_int ha (by decide) (by decide) he hpl
abbrev tAbs (tA : TA) : TE := tCB (fun xs H Q => ∃ i, xs = [.int i] ∧ Q (.int (if i < 0 then -i else i)) H) tA
theorem v_abs (hg : Gl X "abs") (hm : X.mg "abs" = none) (ha : VA X G F [e] tA sL) (he : starEach [e] X.env = (false, eval e X.env) :: starEach [] X.env := by rfl) (hpl : (backTo pos (starEach [] X.env)).any (·.1) = false := by rfl) :
    VE X G F (.Call (.Name "abs" p) [e] [] pos) (tAbs tA) (sCb gAbs sL) := v_callB call_abs cb_abs hg hm bt_abs ha (by decide) (by decide) he hpl
abbrev tMax2 (tA : TA) : TE := tCB (fun xs H Q => ∃ i j, xs = [.int i, .int j] ∧ Q (.int (if j > i then j else i)) H) tA
theorem v_max2 (hc : X.calm = true) (hg : Gl X "max") (hm : X.mg "max" = none) (ha : VA X G F [a, b] tA sL) (he : starEach [a, b] X.env = (false, eval a X.env) :: starEach [b] X.env := by rfl) (hpl : (backTo pos (starEach [b] X.env)).any (·.1) = false := by rfl) :
    VE X G F (.Call (.Name "max" p) [a, b] [] pos) (tMax2 tA) (sCb gMax2 sL) := v_callB (call_max2 hc) cb_max2 hg hm bt_max ha (by decide) (by decide) he hpl
theorem v_sum (hc : X.calm = true) (hg : Gl X "sum") (hm : X.mg "sum" = none) (ha : VA X G F [e] tA sL) (he : starEach [e] X.env = (false, eval e X.env) :: starEach [] X.env := by rfl) (hpl : (backTo pos (starEach [] X.env)).any (·.1) = false := by rfl) :
    VE X G F (.Call (.Name "sum" p) [e] [] pos) (tCB (rSum X.K) tA) (sCb (gInts fSum) sL) := v_callB (cr_sum hc) cb_sum hg hm bt_sum ha (by decide) (by decide) he hpl
theorem v_minL (hc : X.calm = true) (hg : Gl X "min") (hm : X.mg "min" = none) (ha : VA X G F [e] tA sL) (he : starEach [e] X.env = (false, eval e X.env) :: starEach [] X.env := by rfl) (hpl : (backTo pos (starEach [] X.env)).any (·.1) = false := by rfl) :
    VE X G F (.Call (.Name "min" p) [e] [] pos) (tCB (rMin X.K) tA) (sCb (gInts fMin) sL) := v_callB (cr_min hc) cb_min hg hm bt_min ha (by decide) (by decide) he hpl
theorem v_isi (hg : Gl X "isinstance") (hm : X.mg "isinstance" = none) (ha : VA X G F [a, b] tA sL) (he : starEach [a, b] X.env = (false, eval a X.env) :: starEach [b] X.env := by rfl) (hpl : (backTo pos (starEach [b] X.env)).any (·.1) = false := by rfl) :
    VE X G F (.Call (.Name "isinstance" p) [a, b] [] pos) (tCB (rIsi X.K) tA) (sCb gIsi sL) := v_callB call_isi cb_isi hg hm bt_isinstance ha (by decide) (by decide) he hpl
theorem v_lt (ha : VE X G F a ta sa) (hb : VE X G F b tb sb) (hm : behindInMarks .Lt b = false := by rfl) : VE X G F (.Compare a [.Lt] [b] pos) (tOp (rI0 fun i j => .bl (decide (i < j))) ta tb) (sOp gLt sa sb) := v_cmp op_lt (op2_I0 fun _ _ => .bl) ha hb hm
theorem v_le (ha : VE X G F a ta sa) (hb : VE X G F b tb sb) (hm : behindInMarks .LtE b = false := by rfl) : VE X G F (.Compare a [.LtE] [b] pos) (tOp (rI0 fun i j => .bl (decide (i ≤ j))) ta tb) (sOp gLe sa sb) := v_cmp op_le (op2_I0 fun _ _ => .bl) ha hb hm
theorem v_gt (ha : VE X G F a ta sa) (hb : VE X G F b tb sb) (hm : behindInMarks .Gt b = false := by rfl) : VE X G F (.Compare a [.Gt] [b] pos) (tOp (rI0 fun i j => .bl (decide (j < i))) ta tb) (sOp gGt sa sb) := v_cmp op_gt (op2_I0 fun _ _ => .bl) ha hb hm
theorem v_ge (ha : VE X G F a ta sa) (hb : VE X G F b tb sb) (hm : behindInMarks .GtE b = false := by rfl) : VE X G F (.Compare a [.GtE] [b] pos) (tOp (rI0 fun i j => .bl (decide (j ≤ i))) ta tb) (sOp gGe sa sb) := v_cmp op_ge (op2_I0 fun _ _ => .bl) ha hb hm
theorem t_lt (ha : VE X G F a ta sa) (hb : VE X G F b tb sb) (hm : behindInMarks .Lt b = false := by rfl) : VT X G F (.Compare a [.Lt] [b] pos) (tTest (tOp (rI0 fun i j => .bl (decide (i < j))) ta tb)) (sTst (sOp gLt sa sb)) := t_cmp op_lt (op2_I0 fun _ _ => .bl) ha hb hm
theorem t_le (ha : VE X G F a ta sa) (hb : VE X G F b tb sb) (hm : behindInMarks .LtE b = false := by rfl) : VT X G F (.Compare a [.LtE] [b] pos) (tTest (tOp (rI0 fun i j => .bl (decide (i ≤ j))) ta tb)) (sTst (sOp gLe sa sb)) := t_cmp op_le (op2_I0 fun _ _ => .bl) ha hb hm
theorem t_gt (ha : VE X G F a ta sa) (hb : VE X G F b tb sb) (hm : behindInMarks .Gt b = false := by rfl) : VT X G F (.Compare a [.Gt] [b] pos) (tTest (tOp (rI0 fun i j => .bl (decide (j < i))) ta tb)) (sTst (sOp gGt sa sb)) := t_cmp op_gt (op2_I0 fun _ _ => .bl) ha hb hm
theorem t_ge (ha : VE X G F a ta sa) (hb : VE X G F b tb sb) (hm : behindInMarks .GtE b = false := by rfl) : VT X G F (.Compare a [.GtE] [b] pos) (tTest (tOp (rI0 fun i j => .bl (decide (j ≤ i))) ta tb)) (sTst (sOp gGe sa sb)) := t_cmp op_ge (op2_I0 fun _ _ => .bl) ha hb hm
abbrev r2IsN : R2 := fun x y H Q => y = .non ∧ Q (.bl (decide (x = .non))) H
abbrev r2NotN : R2 := fun x y H Q => y = .non ∧ Q (.bl (!decide (x = .non))) H
theorem v_isN (ha : VE X G F a ta sa) (hb : VE X G F b tb sb) (hm : behindInMarks .Is b = false := by rfl) : VE X G F (.Compare a [.Is] [b] pos) (tOp r2IsN ta tb) (sOp gIsN sa sb) := v_cmp op_isN op2_isN ha hb hm
theorem v_notN (ha : VE X G F a ta sa) (hb : VE X G F b tb sb) (hm : behindInMarks .IsNot b = false := by rfl) : VE X G F (.Compare a [.IsNot] [b] pos) (tOp r2NotN ta tb) (sOp gNotN sa sb) := v_cmp op_notN op2_notN ha hb hm
theorem t_isN (ha : VE X G F a ta sa) (hb : VE X G F b tb sb) (hm : behindInMarks .Is b = false := by rfl) : VT X G F (.Compare a [.Is] [b] pos) (tTest (tOp r2IsN ta tb)) (sTst (sOp gIsN sa sb)) := t_cmp op_isN op2_isN ha hb hm
theorem t_notN (ha : VE X G F a ta sa) (hb : VE X G F b tb sb) (hm : behindInMarks .IsNot b = false := by rfl) : VT X G F (.Compare a [.IsNot] [b] pos) (tTest (tOp r2NotN ta tb)) (sTst (sOp gNotN sa sb)) := t_cmp op_notN op2_notN ha hb hm
theorem v_in (ha : VE X G F a ta sa) (hb : VE X G F b tb sb) (hm : behindInMarks .In b = false := by rfl) : VE X G F (.Compare a [.In] [b] pos) (tOp (rIn X.K false) ta tb) (sOp (gIn false) sa sb) := v_cmp op_in_seq op2_in ha hb hm
theorem t_in (ha : VE X G F a ta sa) (hb : VE X G F b tb sb) (hm : behindInMarks .In b = false := by rfl) : VT X G F (.Compare a [.In] [b] pos) (tTest (tOp (rIn X.K false) ta tb)) (sTst (sOp (gIn false) sa sb)) := t_cmp op_in_seq op2_in ha hb hm
end
theorem szOk {n : Nat} (h : n ≤ 10000000) : n ≤ sizeLine := by rw [sizeLine_eq]; omega
theorem szLt {n : Nat} (h : n < 10000000) : n < sizeLine := by rw [sizeLine_eq]; omega
theorem noIos {s0 : L2.St} {i : Nat} : i ∉ (⟨[], s0⟩ : Fx).ios := fun h => nomatch h
end VL
-- V21
set_option maxHeartbeats 1000000
namespace VL
open PySem PySem.Spec PyProof.Rows L2
def tePack (K : Fr) (G : Gh) (F : Fx) (t : TV) : TE := fun σ H P => ∃ (S : Hp) (Γ : Cl) (env : En) (Q : Rv → En → Prop), Fix F σ ∧ EnOk σ env ∧ VSt K G S (Γ ++ cl σ env) H ∧ t env Q ∧
  ∀ S' r env' v H', Sub S S' → EnOk σ env' → VSt K G S' (rcl v r ++ (Γ ++ cl σ env')) H' → bok σ v r → Q r env' → P v H'
def ttPack (K : Fr) (G : Gh) (F : Fx) (t : TB) : TT := fun σ H P => ∃ (S : Hp) (Γ : Cl) (env : En) (Q : Bool → En → Prop), Fix F σ ∧ EnOk σ env ∧ VSt K G S (Γ ++ cl σ env) H ∧ t env Q ∧
  ∀ S' b env' H', Sub S S' → EnOk σ env' → VSt K G S' (Γ ++ cl σ env') H' → Q b env' → P b H'
def tgPack (K : Fr) (G : Gh) (F : Fx) (t : TVG) (tl : List Nat) : TG := fun v σ H P => ∃ (S : Hp) (Γ : Cl) (env : En) (d : D) (Q : En → Prop), Fix F σ ∧ EnOk σ env ∧ VSt K G S (Γ ++ cl σ env) H ∧ Rep K S v d ∧ t d env Q ∧
  ∀ env' σ', σ'.length = σ.length → (∀ j : Nat, j ∉ tl → σ'[j]? = σ[j]?) → Fix F σ' → EnOk σ' env' → VSt K G S (Γ ++ cl σ' env') H → Q env' → P σ' H
def tiPack (K : Fr) (G : Gh) (F : Fx) (u : TVI) : TI := fun σ H R => ∃ (S : Hp) (Γ : Cl) (env : En) (Q : Nat → (Nat → D) → En → Prop), Fix F σ ∧ EnOk σ env ∧ VSt K G S (Γ ++ cl σ env) H ∧ u env Q ∧
  ∀ S' n ys env' J H', Sub S S' → EnOk σ env' → VSt K G S' (Γ ++ cl σ env') H' → ItOk K S' J n ys → Q n ys env' → R J H'
section
variable {X : Cx} {G : Gh} {F : Fx} {K : Fr} {e tg it : Expr} {ifs : List Expr} {te : TE} {tt : TT} {sa : TV} {ss : TB} {g : TG} {tG : TVG} {tl : List Nat} {wi : TI} {ui : TVI}
theorem VE.pack (h : VE X G F e te sa) : VE X G F e (tePack X.K G F sa) sa := ⟨⟨fun pins s σ H Q I ⟨S, Γ, env, Q', fx, k, x, t, fin⟩ => h.pe.run pins s σ H Q I (h.lk S Γ env σ H Q' Q fx k x t fin)⟩,
  fun S Γ env σ H Q P fx k x t fin => ⟨S, Γ, env, Q, fx, k, x, t, fin⟩⟩
theorem VTs.pack (h : VTs X G F ifs tt ss) : VTs X G F ifs (ttPack X.K G F ss) ss := ⟨⟨fun pins s σ H Q I ⟨S, Γ, env, Q', fx, k, x, t, fin⟩ => h.pt.run pins s σ H Q I (h.lk S Γ env σ H Q' Q fx k x t fin)⟩,
  fun S Γ env σ H Q P fx k x t fin => ⟨S, Γ, env, Q, fx, k, x, t, fin⟩⟩
theorem VG.pack (h : VG X G F tg g tG tl) : VG X G F tg (tgPack X.K G F tG tl) tG tl := ⟨⟨fun pins s σ H v u Q I r ⟨S, Γ, env, d, Q', fx, k, x, rp, t, fin⟩ => h.pg.run pins s σ H v u Q I r (h.lk S Γ env σ H d v Q' Q fx k x rp t fin)⟩,
  fun S Γ env σ H d v Q P fx k x r t fin => ⟨S, Γ, env, d, Q, fx, k, x, r, t, fin⟩⟩
theorem VI.pack (h : VI X G F tg it wi ui) : VI X G F tg it (tiPack X.K G F ui) ui := ⟨⟨fun pins s σ H R I ⟨S, Γ, env, Q', fx, k, x, t, fin⟩ => h.pi.run pins s σ H R I (h.lk S Γ env σ H Q' R fx k x t fin)⟩,
  fun S Γ env σ H Q R fx k x t fin => ⟨S, Γ, env, Q, fx, k, x, t, fin⟩⟩
end
section
variable {X : Cx} {G : Gh} {F : Fx} {tg it elt tg1 it1 : Expr} {ifs ifs1 : List Expr} {wi : TI} {ui ui1 : TVI} {tG tG1 : TVG} {ss ss1 : TB} {se : TV} {pos : Pos} {vs vs1 tl tl1 : List Nat} {scope : Scope} {own : List (Str × Nat)}
theorem vLc (hc : X.calm = true) (hN : X.N.Nodup) (hvs : own.map (·.2) = vs) (hv : ∀ v ∈ vs, v ∉ F.ios) (htl : ∀ j ∈ tl, j ∈ vs) (hi : VI X G F tg it wi ui) (ok : BlkOk X.N X.env.scope scope own)
    (hg : ∀ (s : Shared) (H : Hp) (C : Addr) (cl : List (Str × Addr)) (fp : List Addr), ∃ g, VG (X.blk s H scope (compEnvC scope cl C X.env) fp) G F tg g tG tl)
    (ht : ∀ (s : Shared) (H : Hp) (C : Addr) (cl : List (Str × Addr)) (fp : List Addr), ∃ tt, VTs (X.blk s H scope (compEnvC scope cl C X.env) fp) G F ifs tt ss)
    (he : ∀ (s : Shared) (H : Hp) (C : Addr) (cl : List (Str × Addr)) (fp : List Addr), ∃ te, VE (X.blk s H scope (compEnvC scope cl C X.env) fp) G F elt te se) (hs : ∀ x, foldedSetIterable it X.env x = pure x := by intro _; rfl) :
    VE X G F (.ListComp elt [⟨tg, it, ifs, 0⟩] scope pos) (tLc wi (tgPack X.K G F tG tl) (ttPack X.K G F ss) (tePack X.K G F se) vs) (sLc ui tG ss se vs) :=
  v_lc hc hN hvs hv htl hi ok (fun s H C cl fp => (hg s H C cl fp).choose_spec.pack) (fun s H C cl fp => (ht s H C cl fp).choose_spec.pack) (fun s H C cl fp => (he s H C cl fp).choose_spec.pack) hs
theorem vLcO (hc : X.calm = true) (hN : X.N.Nodup) (hvs : own.map (·.2) = vs) (hv : ∀ v ∈ vs, v ∉ F.ios) (htl : ∀ j ∈ tl, j ∈ vs) (hi : VI X G F tg it wi ui) (ok : BlkOk X.N X.env.scope scope own)
    (hg : ∀ (s : Shared) (H : Hp) (C : Addr) (cl : List (Str × Addr)) (fp : List Addr), ∃ g, VG (X.blk s H scope (compEnvC scope cl C X.env) fp) G F tg g tG tl)
    (ht : ∀ (s : Shared) (H : Hp) (C : Addr) (cl : List (Str × Addr)) (fp : List Addr), ∃ tt, VTs (X.blk s H scope (compEnvC scope cl C X.env) fp) G F ifs tt ss)
    (he : ∀ (s : Shared) (H : Hp) (C : Addr) (cl : List (Str × Addr)) (fp : List Addr), ∃ te, VE (X.blk s H scope (compEnvC scope cl C X.env) fp) G F elt te se) (hs : ∀ x, foldedSetIterable it X.env x = pure x := by intro _; rfl) :
    VE X G F (.ListComp elt [⟨tg, it, ifs, 0⟩] scope pos) (tLc wi (tgPack X.K G F tG tl) (ttPack X.K G F ss) (tePack X.K G F se) vs) (sLcO ui tG ss se vs) :=
  v_lcO hc hN hvs hv htl hi ok (fun s H C cl fp => (hg s H C cl fp).choose_spec.pack) (fun s H C cl fp => (ht s H C cl fp).choose_spec.pack) (fun s H C cl fp => (he s H C cl fp).choose_spec.pack) hs
theorem vLc2 (hc : X.calm = true) (hN : X.N.Nodup) (hvs : own.map (·.2) = vs) (hv : ∀ v ∈ vs, v ∉ F.ios) (hv1 : ∀ v ∈ vs1, v ∈ vs) (htl : ∀ j ∈ tl, j ∈ vs) (htl1 : ∀ j ∈ tl1, j ∈ vs1) (hi : VI X G F tg it wi ui) (ok : BlkOk X.N X.env.scope scope own)
    (hg : ∀ (s : Shared) (H : Hp) (C : Addr) (cl : List (Str × Addr)) (fp : List Addr), ∃ g, VG (X.blk s H scope (compEnvC scope cl C X.env) fp) G F tg g tG tl)
    (ht : ∀ (s : Shared) (H : Hp) (C : Addr) (cl : List (Str × Addr)) (fp : List Addr), ∃ tt, VTs (X.blk s H scope (compEnvC scope cl C X.env) fp) G F ifs tt ss)
    (hi1 : ∀ (s : Shared) (H : Hp) (C : Addr) (cl : List (Str × Addr)) (fp : List Addr), ∃ wi1, VI (X.blk s H scope (compEnvC scope cl C X.env) fp) G F tg1 it1 wi1 ui1)
    (hg1 : ∀ (s : Shared) (H : Hp) (C : Addr) (cl : List (Str × Addr)) (fp : List Addr), ∃ g1, VG (X.blk s H scope (compEnvC scope cl C X.env) fp) G F tg1 g1 tG1 tl1)
    (ht1 : ∀ (s : Shared) (H : Hp) (C : Addr) (cl : List (Str × Addr)) (fp : List Addr), ∃ tt1, VTs (X.blk s H scope (compEnvC scope cl C X.env) fp) G F ifs1 tt1 ss1)
    (he : ∀ (s : Shared) (H : Hp) (C : Addr) (cl : List (Str × Addr)) (fp : List Addr), ∃ te, VE (X.blk s H scope (compEnvC scope cl C X.env) fp) G F elt te se) (hs : ∀ x, foldedSetIterable it X.env x = pure x := by intro _; rfl) (hs1 : ∀ env x, foldedSetIterable it1 env x = pure x := by intro _ _; rfl) :
    VE X G F (.ListComp elt [⟨tg, it, ifs, 0⟩, ⟨tg1, it1, ifs1, 0⟩] scope pos) (tLc2 wi (tgPack X.K G F tG tl) (ttPack X.K G F ss) (tiPack X.K G F ui1) (tgPack X.K G F tG1 tl1) (ttPack X.K G F ss1) (tePack X.K G F se) vs vs1) (sLc2 ui tG ss ui1 tG1 ss1 se vs vs1) :=
  v_lc2 hc hN hvs hv hv1 htl htl1 hi ok (fun s H C cl fp => (hg s H C cl fp).choose_spec.pack) (fun s H C cl fp => (ht s H C cl fp).choose_spec.pack) (fun s H C cl fp => (hi1 s H C cl fp).choose_spec.pack) (fun s H C cl fp => (hg1 s H C cl fp).choose_spec.pack) (fun s H C cl fp => (ht1 s H C cl fp).choose_spec.pack) (fun s H C cl fp => (he s H C cl fp).choose_spec.pack) hs hs1
theorem sSetLc {i : Nat} {y : Str} {py spos : Pos} (hio : i ∉ F.ios) (hc : X.calm = true) (hN : X.N.Nodup) (hy : X.N[i]? = some y) (hyl : X.env.scope.names.lookup y = some .local)
    (hsw : swapsWith (.ListComp elt [⟨tg, it, ifs, 0⟩] scope pos) (some (.Name y py)) spos.line X.env = pure true) (hvs : own.map (·.2) = vs) (hv : ∀ v ∈ vs, v ∉ F.ios) (htl : ∀ j ∈ tl, j ∈ vs) (hi : VI X G F tg it wi ui) (ok : BlkOk X.N X.env.scope scope own)
    (hg : ∀ (s : Shared) (H : Hp) (C : Addr) (cl : List (Str × Addr)) (fp : List Addr), ∃ g, VG (X.blk s H scope (compEnvC scope cl C X.env) fp) G F tg g tG tl)
    (ht : ∀ (s : Shared) (H : Hp) (C : Addr) (cl : List (Str × Addr)) (fp : List Addr), ∃ tt, VTs (X.blk s H scope (compEnvC scope cl C X.env) fp) G F ifs tt ss)
    (he : ∀ (s : Shared) (H : Hp) (C : Addr) (cl : List (Str × Addr)) (fp : List Addr), ∃ te, VE (X.blk s H scope (compEnvC scope cl C X.env) fp) G F elt te se) (hs : ∀ x, foldedSetIterable it X.env x = pure x := by intro _; rfl) :
    VS X G F (.Assign [.Name y py] (.ListComp elt [⟨tg, it, ifs, 0⟩] scope pos) spos) (tAsg (tLc wi (tgPack X.K G F tG tl) (ttPack X.K G F ss) (tePack X.K G F se) vs) (gName i)) (sSet i (sLc ui tG ss se vs)) :=
  s_setLc hio hc hN hy hyl hsw hvs hv htl hi ok (fun s H C cl fp => (hg s H C cl fp).choose_spec.pack) (fun s H C cl fp => (ht s H C cl fp).choose_spec.pack) (fun s H C cl fp => (he s H C cl fp).choose_spec.pack) hs
theorem sSetLcO {i : Nat} {y : Str} {py spos : Pos} (hio : i ∉ F.ios) (hc : X.calm = true) (hN : X.N.Nodup) (hy : X.N[i]? = some y) (hyl : X.env.scope.names.lookup y = some .local)
    (hsw : swapsWith (.ListComp elt [⟨tg, it, ifs, 0⟩] scope pos) (some (.Name y py)) spos.line X.env = pure true) (hvs : own.map (·.2) = vs) (hv : ∀ v ∈ vs, v ∉ F.ios) (htl : ∀ j ∈ tl, j ∈ vs) (hi : VI X G F tg it wi ui) (ok : BlkOk X.N X.env.scope scope own)
    (hg : ∀ (s : Shared) (H : Hp) (C : Addr) (cl : List (Str × Addr)) (fp : List Addr), ∃ g, VG (X.blk s H scope (compEnvC scope cl C X.env) fp) G F tg g tG tl)
    (ht : ∀ (s : Shared) (H : Hp) (C : Addr) (cl : List (Str × Addr)) (fp : List Addr), ∃ tt, VTs (X.blk s H scope (compEnvC scope cl C X.env) fp) G F ifs tt ss)
    (he : ∀ (s : Shared) (H : Hp) (C : Addr) (cl : List (Str × Addr)) (fp : List Addr), ∃ te, VE (X.blk s H scope (compEnvC scope cl C X.env) fp) G F elt te se) (hs : ∀ x, foldedSetIterable it X.env x = pure x := by intro _; rfl) :
    VS X G F (.Assign [.Name y py] (.ListComp elt [⟨tg, it, ifs, 0⟩] scope pos) spos) (tAsg (tLc wi (tgPack X.K G F tG tl) (ttPack X.K G F ss) (tePack X.K G F se) vs) (gName i)) (sSet i (sLcO ui tG ss se vs)) :=
  s_setLcO hio hc hN hy hyl hsw hvs hv htl hi ok (fun s H C cl fp => (hg s H C cl fp).choose_spec.pack) (fun s H C cl fp => (ht s H C cl fp).choose_spec.pack) (fun s H C cl fp => (he s H C cl fp).choose_spec.pack) hs
theorem sSetLcH {i : Nat} {y : Str} {py spos : Pos} (hio : i ∉ F.ios) (hc : L2H.HotC X) (hN : X.N.Nodup) (hy : X.N[i]? = some y) (hyl : X.env.scope.names.lookup y = some .local)
    (hsw : swapsWith (.ListComp elt [⟨tg, it, ifs, 0⟩] scope pos) (some (.Name y py)) spos.line X.env = pure true) (hvs : own.map (·.2) = vs) (hv : ∀ v ∈ vs, v ∉ F.ios) (htl : ∀ j ∈ tl, j ∈ vs) (hi : VIH X G F tg it wi ui) (ok : BlkOk X.N X.env.scope scope own)
    (hg : ∀ (s : Shared) (H : Hp) (C : Addr) (cl : List (Str × Addr)) (fp : List Addr), ∃ g, VG (blkH X s H scope (compEnvC scope cl C X.env) fp) G F tg g tG tl)
    (ht : ∀ (s : Shared) (H : Hp) (C : Addr) (cl : List (Str × Addr)) (fp : List Addr), ∃ tt, VTs (blkH X s H scope (compEnvC scope cl C X.env) fp) G F ifs tt ss)
    (he : ∀ (s : Shared) (H : Hp) (C : Addr) (cl : List (Str × Addr)) (fp : List Addr), ∃ te, VE (blkH X s H scope (compEnvC scope cl C X.env) fp) G F elt te se) (hs : ∀ x, foldedSetIterable it X.env x = pure x := by intro _; rfl) :
    VS X G F (.Assign [.Name y py] (.ListComp elt [⟨tg, it, ifs, 0⟩] scope pos) spos) (tAsg (tLc wi (tgPack X.K G F tG tl) (ttPack X.K G F ss) (tePack X.K G F se) vs) (gName i)) (sSet i (sLc ui tG ss se vs)) :=
  s_setLcH hio hc hN hy hyl hsw hvs hv htl hi ok (fun s H C cl fp => (hg s H C cl fp).choose_spec.pack) (fun s H C cl fp => (ht s H C cl fp).choose_spec.pack) (fun s H C cl fp => (he s H C cl fp).choose_spec.pack) hs
end
end VL
-- V22
set_option maxHeartbeats 1000000
namespace VL
open PySem PySem.Spec PyProof.Rows L2
section
variable {CX : CXT} {P : Program} {w : World} {K : Fr} {mg : Str → Option Value} {base : Heap} {N : List Str} {qual : Str} {scope : Scope} {f : Addr} {cd : Value} {A : Around} {outer : List Env} {s : Shared} {H : Hp} {E : XK} {p : Addr × Obj}
theorem cxK : (cxOf CX P w K mg base N qual scope f cd A outer s H E).K = K := rfl
theorem cxHK : (L2H.cxH CX P w K mg base N qual scope f cd A outer s H E p).K = K := rfl
end
def sFz (s : TV) : TV := fun env Q => s env fun r e => r.asT fun o => Q (.t (.st (frz o))) e
theorem v_fz {X : Cx} {G : Gh} {F : Fx} {e : Expr} {te : TE} {sa : TV} (h : VE X G F e te sa) : VE X G F e te (sFz sa) := ⟨h.pe, fun S Γ env σ H Q P fx k x hh fin => h.lk S Γ env σ H _ _ fx k x hh fun S1 r e1 v H1 s1 k1 x1 b1 q1 => by
  obtain ⟨o, e, q⟩ := Rv.asT_inv q1
  subst e
  obtain ⟨S2, s2, x2⟩ := VSt.freeze x1
  exact fin S2 (.t (.st (frz o))) e1 v H1 (s1.trans s2) k1 x2 trivial q⟩
theorem itmO_st (d : D) : itmO (.st d) = d.itm := by cases d <;> rfl
theorem gLen_itm {d : D} {b : Bool} {ds : List D} {Q : D → Prop} (h : d.itm = some (b, ds)) (q : Q (.int ds.length)) : gLen [d] Q := by
  cases d <;> cases h <;> first | exact q | (show Q _; rw [List.length_map] at q; exact q)
theorem items_itm {d : D} {b : Bool} {ds : List D} (h : d.itm = some (b, ds)) : d.items = some ds := by
  cases d <;> cases h <;> rfl
theorem lsO_lst (ds : List D) : lsO (.st (.lst ds)) = some ds := rfl
theorem lsO_own (ds : List D) : lsO (.lst (ds.map .st)) = some ds := allSt_map ds
theorem itmO_own (ds : List D) : itmO (.lst (ds.map .st)) = some (false, ds) := by
  show (match allSt (ds.map .st) with
    | some ds => some (false, ds)
    | none => none) = _
  rw [allSt_map]
theorem goI_cons (i : Int) (r : List D) : D.asInts.goI (.int i :: r) = (D.asInts.goI r).map (i :: ·) := by
  show (match D.asInts.goI r with
    | some l => some (i :: l)
    | none => none) = _
  cases D.asInts.goI r <;> rfl
theorem repD_one (n : Nat) (d : D) : repD n [d] = List.replicate n d := by
  unfold repD
  induction n with
  | zero => rfl
  | succ n ih => rw [List.replicate_succ, List.flatten_cons, ih, List.replicate_succ]; rfl
theorem atI_nat {α : Type} (l : List α) (k : Nat) (h : k < l.length) : atI l (k : Int) = some l[k] := by
  unfold atI ixN
  rw [if_pos (by omega), if_pos (by omega)]
  exact List.getElem?_eq_getElem h
theorem atI_pos {α : Type} (l : List α) (i : Int) (h0 : 0 ≤ i) : atI l i = l[i.toNat]? := by
  unfold atI ixN
  rw [if_pos h0]
  by_cases h : i < l.length
  · rw [if_pos h]; rfl
  · rw [if_neg h]; exact (List.getElem?_eq_none (by omega)).symm
theorem ixN_pos (n : Nat) (i : Int) (h0 : 0 ≤ i) (h : i < n) : ixN n i = some i.toNat := by
  unfold ixN
  rw [if_pos h0, if_pos h]
section
variable {Q : D → Prop} {Qi : Int → Prop} {Qb : Bool → Prop} {Qo : OD → Prop} {Qr : Rv → Prop} {e : En} {r : Rv}
theorem gLenE {d : D} {b : Bool} {ds : List D} (h : d.itm = some (b, ds)) : gLen [d] Q = Q (.int ds.length) := by
  cases d <;> cases h <;> first | rfl | (show Q _ = Q _; rw [List.length_map])
theorem gLen_lst {l : List D} : gLen [.lst l] Q = Q (.int l.length) := rfl
theorem gLen_tup {l : List D} : gLen [.tup l] Q = Q (.int l.length) := rfl
theorem gLen_scr {l : List Int} : gLen [.scr l] Q = Q (.int l.length) := rfl
theorem items_lst {l : List D} : D.items (.lst l) = some l := rfl
theorem items_tup {l : List D} : D.items (.tup l) = some l := rfl
theorem items_scr {l : List Int} : D.items (.scr l) = some (l.map .int) := rfl
theorem itm_lst' {l : List D} : D.itm (.lst l) = some (false, l) := rfl
theorem itm_tup' {l : List D} : D.itm (.tup l) = some (true, l) := rfl
theorem itm_scr' {l : List Int} : D.itm (.scr l) = some (false, l.map .int) := rfl
theorem itmO_lst {os : List OD} : itmO (.lst os) = (allSt os).map fun ds => (false, ds) := by
  show (match allSt os with
    | some ds => some (false, ds)
    | none => none) = _
  cases allSt os <;> rfl
theorem lsO_lst' {l : List D} : lsO (.st (.lst l)) = some l := rfl
theorem lsO_own' {os : List OD} : lsO (.lst os) = allSt os := rfl
theorem gI0_eq {g : Int → Int → D} {i j : Int} : gI0 g (.int i) (.int j) Q = Q (g i j) := rfl
theorem gI_eq {C : Int → Int → Prop} {g : Int → Int → D} {i j : Int} : gI C g (.int i) (.int j) Q = (C i j ∧ Q (g i j)) := rfl
theorem gAdd_int {i j : Int} : gAddA (.t (.st (.int i))) (.t (.st (.int j))) e Qr = Qr (.t (.st (.int (i + j)))) := rfl
theorem gAdd_bor {i : Nat} : gAddA (.bor i) r e Qr = gCat (.bor i) r e Qr := rfl
theorem gAdd_own {os : List OD} : gAddA (.t (.lst os)) r e Qr = gCat (.t (.lst os)) r e Qr := rfl
theorem gAdd_lst {l : List D} : gAddA (.t (.st (.lst l))) r e Qr = gCat (.t (.st (.lst l))) r e Qr := rfl
theorem gMul_int {i j : Int} : gMulA (.t (.st (.int i))) (.t (.st (.int j))) e Qr = (CMulW i j ∧ Qr (.t (.st (.int (i * j))))) := rfl
theorem gMul_bor {i : Nat} : gMulA (.bor i) r e Qr = gRep (.bor i) r e Qr := rfl
theorem gMul_own {os : List OD} : gMulA (.t (.lst os)) r e Qr = gRep (.t (.lst os)) r e Qr := rfl
theorem gMul_lst {l : List D} : gMulA (.t (.st (.lst l))) r e Qr = gRep (.t (.st (.lst l))) r e Qr := rfl
theorem gEq_int {i j : Int} : gEqA (.int i) (.int j) Q = Q (.bl (decide (i = j))) := rfl
theorem gEq_str {i j : Str} : gEqA (.str i) (.str j) Q = Q (.bl (decide (i = j))) := rfl
theorem gEq_bl {i j : Bool} : gEqA (.bl i) (.bl j) Q = Q (.bl (decide (i = j))) := rfl
theorem gNe_eq {a b : D} : gNeA a b Q = gEqA a b fun d => match d with
  | .bl k => Q (.bl (!k))
  | _ => False := rfl
theorem gIsN_eq {a : D} : gIsN a .non Q = Q (.bl (isNonD a)) := rfl
theorem gNotN_eq {a : D} : gNotN a .non Q = Q (.bl (!isNonD a)) := rfl
theorem isNon_non : isNonD .non = true := rfl
theorem isNon_int {i : Int} : isNonD (.int i) = false := rfl
theorem asI_eq {i : Int} : Rv.asI (.t (.st (.int i))) Qi = Qi i := rfl
theorem asB_eq {b : Bool} : Rv.asB (.t (.st (.bl b))) Qb = Qb b := rfl
theorem asT_eq {o : OD} : Rv.asT (.t o) Qo = Qo o := rfl
theorem gInt_int {i : Int} : gInt1 [.int i] Q = Q (.int i) := rfl
theorem gInt_bl {k : Bool} : gInt1 [.bl k] Q = Q (.int (if k then 1 else 0)) := rfl
theorem gAbs_eq {i : Int} : gAbs [.int i] Q = Q (.int (if i < 0 then -i else i)) := rfl
theorem gMax_eq {i j : Int} : gMax2 [.int i, .int j] Q = Q (.int (if j > i then j else i)) := rfl
theorem gInts_eq {f : List Int → (D → Prop) → Prop} {l : List D} : gInts f [.lst l] Q = ∃ ns, D.asInts.goI l = some ns ∧ f ns Q := rfl
theorem gIsi_eq {d : D} {n : String} : gIsi [d, .cls n] Q = ∃ T b, d.ty = some T ∧ kitB T n = some b ∧ Q (.bl b) := rfl
end
theorem goI_some (ns : List Int) (l : List Int) : (some ns = some l) = (ns = l) := by simp
end VL
-- V23
set_option maxHeartbeats 1000000
namespace VL
open PySem PySem.Spec PyProof.Rows L2
inductive Er where
  | empty | stations | pile | slips | couriers | bad (x : Int)
deriving DecidableEq
def okI (n x : Int) : Bool := decide (0 ≤ x) && decide (x < n)
theorem okI_iff {n x : Int} : okI n x = true ↔ 0 ≤ x ∧ x < n := by simp [okI]
theorem okI_no {n x : Int} : okI n x = false ↔ ¬ (0 ≤ x ∧ x < n) := by
  rw [← okI_iff]; cases okI n x <;> simp
def chkRow (n : Int) (most : Nat) (e : Er) (ns : List Int) : Option Er := if most < ns.length then some e else (ns.find? fun x => !okI n x).map .bad
def chkPiles (pss : List (List Int)) : Option Er := if pss.length < 1 then some .empty else if 40 < pss.length then some .stations else match pss.findSome? (chkRow pss.length 60 .pile) with
  | some e => some e
  | none => if 300 < (pss.map List.length).sum then some .slips else none
def erE (K : Fr) (E : Addr → List (Str × D) → List OD → Prop) (os : List OD) : Er → Prop
  | .empty => E (He.ga K "Empty") [("what", .str "stations")] os
  | .stations => E (He.ga K "TooMany") [("limit", .int 40), ("what", .str "stations")] os
  | .pile => E (He.ga K "TooMany") [("limit", .int 60), ("what", .str "pile")] os
  | .slips => E (He.ga K "TooMany") [("limit", .int 300), ("what", .str "slips")] os
  | .couriers => E (He.ga K "TooMany") [("limit", .int 40), ("what", .str "couriers")] os
  | .bad x => E (He.ga K "BadStation") [("station", .int x)] os
def res (K : Fr) (E : Addr → List (Str × D) → List OD → Prop) (os : List OD) (q : Prop) : Option Er → Prop
  | none => q
  | some e => erE K E os e
inductive RowsD : List D → List (List Int) → Prop where
  | nil : RowsD [] []
  | cons {d : D} {b : Bool} {ns : List Int} {ds : List D} {nss : List (List Int)} : d.itm = some (b, ns.map .int) → RowsD ds nss → RowsD (d :: ds) (ns :: nss)
def PilesD (d : D) (pss : List (List Int)) : Prop := ∃ b ds, d.itm = some (b, ds) ∧ RowsD ds pss
theorem RowsD.length : ∀ {ds : List D} {nss : List (List Int)}, RowsD ds nss → ds.length = nss.length
  | _, _, .nil => rfl
  | _, _, .cons _ r => congrArg (· + 1) r.length
theorem RowsD.get : ∀ {ds : List D} {nss : List (List Int)} {m : Nat} {ns : List Int}, RowsD ds nss → nss[m]? = some ns → ∃ d b, ds[m]? = some d ∧ d.itm = some (b, ns.map .int)
  | _, _, _, _, .nil, h => by simp at h
  | _, _, 0, _, .cons e r, h => by simp at h; subst h; exact ⟨_, _, rfl, e⟩
  | _, _, m + 1, _, .cons e r, h => by
    obtain ⟨d, b, h1, h2⟩ := r.get (m := m) (by simpa using h)
    exact ⟨d, b, by simpa using h1, h2⟩
theorem getD_of {ds : List D} {m : Nat} {d : D} (h : ds[m]? = some d) : ds.getD m .non = d := by
  rw [List.getD_eq_getElem?_getD, h]; rfl
theorem getD_int {ns : List Int} {m : Nat} {y : Int} (h : ns[m]? = some y) : (ns.map D.int).getD m .non = .int y := by
  rw [List.getD_eq_getElem?_getD, List.getElem?_map, h]; rfl
theorem get_lt {α : Type} {l : List α} {m : Nat} (h : m < l.length) : ∃ y, l[m]? = some y := ⟨l[m], List.getElem?_eq_getElem h⟩
theorem find_at {α : Type} {p : α → Bool} : ∀ {l : List α} {m : Nat} {y : α}, l[m]? = some y → (∀ j z, j < m → l[j]? = some z → p z = false) → p y = true → l.find? p = some y
  | [], _, _, h, _, _ => by simp at h
  | x :: l, 0, y, h, _, hy => by simp at h; subst h; simp [List.find?, hy]
  | x :: l, m + 1, y, h, hj, hy => by
    have hx : p x = false := hj 0 x (by omega) rfl
    have := find_at (l := l) (m := m) (by simpa using h) (fun j z h1 h2 => hj (j + 1) z (by omega) (by simpa using h2)) hy
    simp [List.find?, hx, this]
theorem find_no {α : Type} {p : α → Bool} {l : List α} (h : ∀ j z, j < l.length → l[j]? = some z → p z = false) : l.find? p = none := by
  rw [List.find?_eq_none]
  intro x hx
  obtain ⟨j, hj⟩ := List.getElem?_of_mem hx
  rw [h j x (List.getElem?_eq_some_iff.mp hj).1 hj]
  exact Bool.false_ne_true
theorem fsome_at {α β : Type} {f : α → Option β} : ∀ {l : List α} {m : Nat} {y : α} {z : β}, l[m]? = some y → (∀ j x, j < m → l[j]? = some x → f x = none) → f y = some z → l.findSome? f = some z
  | [], _, _, _, h, _, _ => by simp at h
  | x :: l, 0, y, z, h, _, hy => by simp at h; subst h; simp [List.findSome?, hy]
  | x :: l, m + 1, y, z, h, hj, hy => by
    have hx : f x = none := hj 0 x (by omega) rfl
    have := fsome_at (l := l) (m := m) (by simpa using h) (fun j z h1 h2 => hj (j + 1) z (by omega) (by simpa using h2)) hy
    simp [List.findSome?, hx, this]
theorem fsome_no {α β : Type} {f : α → Option β} : ∀ {l : List α}, (∀ j x, j < l.length → l[j]? = some x → f x = none) → l.findSome? f = none
  | [], _ => rfl
  | x :: l, h => by
    have hx : f x = none := h 0 x (by simp) rfl
    have := fsome_no (l := l) fun j z h1 h2 => h (j + 1) z (by simpa using h1) (by simpa using h2)
    simp [List.findSome?, hx, this]
theorem sum_len : ∀ (pss : List (List Int)), (pss.map fun ns => (ns.length : Int)).sum = (((pss.map List.length).sum : Nat) : Int)
  | [] => rfl
  | a :: l => by
    have ih := sum_len l
    simp only [List.map_cons, List.sum_cons, ih]
    omega
def tally (n : Nat) (row : List Int) : List Int := (List.range n).map fun (v : Nat) => ((row.count (v : Int) : Nat) : Int)
theorem tally_len (n : Nat) (row : List Int) : (tally n row).length = n := by simp [tally]
theorem tally_nil (n : Nat) : tally n [] = List.replicate n 0 := by
  unfold tally
  apply List.ext_getElem
  · simp
  · intro i h1 h2; simp
theorem tally_get {n : Nat} {row : List Int} {y : Int} (h0 : 0 ≤ y) (h1 : y < n) : (tally n row)[y.toNat]? = some ((row.count y : Nat) : Int) := by
  unfold tally
  rw [List.getElem?_map, List.getElem?_range (by omega)]
  show some ((row.count ((y.toNat : Nat) : Int) : Nat) : Int) = some _
  rw [Int.toNat_of_nonneg h0]
theorem tally_snoc {n : Nat} {row : List Int} {y : Int} (h0 : 0 ≤ y) (h1 : y < n) : tally n (row ++ [y]) = (tally n row).set y.toNat (((row.count y : Nat) : Int) + 1) := by
  apply List.ext_getElem
  · simp [tally]
  · intro i h2 h3
    rw [List.getElem_set]
    simp only [tally, List.getElem_map, List.getElem_range, List.count_append, List.count_singleton]
    by_cases e : y.toNat = i
    · have e2 : y = (i : Int) := by omega
      rw [if_pos e]
      subst e2
      simp
    · rw [if_neg e]
      have : (y == (i : Int)) = false := by simp; omega
      simp [this]
theorem take_snoc {α : Type} {l : List α} {m : Nat} {y : α} (h : l[m]? = some y) : l.take (m + 1) = l.take m ++ [y] := by
  rw [List.take_succ, h]; rfl
def pilesT (pss : List (List Int)) : D := .tup (pss.map tupI)
def dealD (K : Fr) (pss : List (List Int)) (starts : List Int) : D := .ins (He.ga K "Deal") [("piles", pilesT pss), ("starts", tupI starts)]
theorem rowsT : ∀ (pss : List (List Int)), RowsD (pss.map tupI) pss
  | [] => .nil
  | a :: l => .cons (b := true) rfl (rowsT l)
theorem pilesT_ok (pss : List (List Int)) : PilesD (pilesT pss) pss := ⟨true, _, rfl, rowsT pss⟩
theorem itm_pilesT (pss : List (List Int)) : (pilesT pss).itm = some (true, pss.map tupI) := rfl
theorem itm_tupI (ns : List Int) : (tupI ns).itm = some (true, ns.map .int) := rfl
theorem getD_tupI {pss : List (List Int)} {m : Nat} {ns : List Int} (h : pss[m]? = some ns) : (pss.map tupI).getD m .non = tupI ns := by
  rw [List.getD_eq_getElem?_getD, List.getElem?_map, h]; rfl
theorem lk_piles {α : Type} {a b : α} : List.lookup ("piles" : Str) [("piles", a), ("starts", b)] = some a := by
  simp [List.lookup]
theorem lk_starts {α : Type} {a b : α} : List.lookup ("starts" : Str) [("piles", a), ("starts", b)] = some b := by
  have h : (("starts" : Str) == "piles") = false := by decide
  simp [List.lookup, h]
theorem put_piles {a : OD} : putO "piles" a [] = ([("piles", a)] : List (Str × OD)) := rfl
theorem put_starts {a b : OD} : putO "starts" b ([("piles", a)] : List (Str × OD)) = ([("piles", a), ("starts", b)] : List (Str × OD)) := by
  have h : ¬ ("piles" : Str) = "starts" := by decide
  simp [putO, h]
def lastD (ns : List Int) : D := match ns.getLast? with
  | some x => .int x
  | none => .non
theorem lastD_nil : lastD [] = .non := rfl
theorem atI_last {ns : List Int} (h : ns ≠ []) : atI (ns.map D.int) (-1) = some (lastD ns) := by
  have hl : 0 < ns.length := List.length_pos_iff.mpr h
  unfold atI ixN lastD
  rw [List.length_map, if_neg (by omega), if_pos (by omega)]
  have e : (-1 + (ns.length : Int)).toNat = ns.length - 1 := by omega
  show (ns.map D.int)[(-1 + (ns.length : Int)).toNat]? = _
  rw [e, List.getElem?_map, List.getLast?_eq_getElem?, List.getElem?_eq_getElem (by omega)]
  rfl
def dealF (pss : List (List Int)) (starts : List Int) : List (Str × OD) := [("piles", .st (pilesT pss)), ("starts", .st (tupI starts))]
def dealO (K : Fr) (pss : List (List Int)) (starts : List Int) : OD := .ins (He.ga K "Deal") (dealF pss starts)
theorem frz_deal (K : Fr) (pss : List (List Int)) (starts : List Int) : frz (dealO K pss starts) = dealD K pss starts := rfl
theorem flat_len (pss : List (List Int)) : pss.flatten.length = (pss.map List.length).sum := List.length_flatten
theorem flat_take {pss : List (List Int)} {m : Nat} : (pss.take m).flatten.length ≤ pss.flatten.length := by
  have h : pss.flatten = (pss.take m).flatten ++ (pss.drop m).flatten := by rw [← List.flatten_append, List.take_append_drop]
  rw [h, List.length_append]; omega
theorem row_len {pss : List (List Int)} {ns : List Int} (h : ns ∈ pss) : ns.length ≤ pss.flatten.length := by
  induction pss with
  | nil => simp at h
  | cons a l ih =>
    rw [List.flatten_cons, List.length_append]
    rcases List.mem_cons.mp h with e | e
    · subst e; omega
    · have := ih e; omega
end VL
-- V24
set_option maxHeartbeats 1000000
namespace VL
open PySem PySem.Spec PyProof.Rows L2
theorem emodB (a : Int) {p : Int} (hp : 0 < p) : 0 ≤ a % p ∧ a % p < p := ⟨Int.emod_nonneg _ (by omega), Int.emod_lt_of_pos _ hp⟩
theorem edivB {a p : Int} (h0 : 0 ≤ a) (hp : 0 < p) : 0 ≤ a / p ∧ a / p ≤ a := ⟨Int.ediv_nonneg h0 (by omega), Int.ediv_le_self _ h0⟩
theorem cmulB {i j : Int} (a b : Nat) (ha : i.natAbs < 2 ^ a) (hb : j.natAbs < 2 ^ b) (h0 : 0 < a := by decide) (h1 : 0 < b := by decide) (h : a + b ≤ 1000000 := by decide) : CMulW i j := wide_mul ha hb h0 h1 h
theorem cdivB {i j : Int} (b : Nat) (h : 0 < j) (hb : j.natAbs < 2 ^ b) (h0 : 0 < b := by decide) (h9 : b ≤ 9000 := by decide) : CDivW i j := wide_div h hb h0 h9
theorem natAbs_lt {i : Int} {b : Nat} (h0 : 0 ≤ i) (h1 : i < 2 ^ b) : i.natAbs < 2 ^ b := by
  have : ((i.natAbs : Nat) : Int) = i := Int.natAbs_of_nonneg h0
  have h2 : ((i.natAbs : Nat) : Int) < ((2 ^ b : Nat) : Int) := by rw [this]; exact_mod_cast h1
  exact_mod_cast h2
theorem natAbs_gt {i : Int} {b : Nat} (h0 : 0 ≤ i) (h1 : i.natAbs < 2 ^ b) : i < 2 ^ b := by
  have : ((i.natAbs : Nat) : Int) = i := Int.natAbs_of_nonneg h0
  rw [← this]; exact_mod_cast h1
theorem pow_le {a b : Nat} (h : a ≤ b) : (2 : Nat) ^ a ≤ 2 ^ b := Nat.pow_le_pow_right (by decide) h
theorem natAbs_mono {i : Int} {a b : Nat} (h : i.natAbs < 2 ^ a) (hab : a ≤ b) : i.natAbs < 2 ^ b := Nat.lt_of_lt_of_le h (pow_le hab)
end VL
namespace VL
open PySem PySem.Spec PyProof.Rows L2
def CellOk (d : D) : Prop := ∃ f x : Int, d = .tup [.int f, .int x] ∧ 0 ≤ x ∧ x.natAbs < 2 ^ 2700
def StoreOk (t : Nat) (os : List OD) : Prop := ∃ (cells : List D) (c1 v2 v3 v4 seed : Int), os = [.st (.lst cells), .st (.int c1), .st (.int v2), .st (.int v3), .st (.int v4), .st (.int seed)] ∧ cells.length ≤ 63 ∧ (∀ c ∈ cells, CellOk c) ∧
  0 ≤ c1 ∧ c1 ≤ cells.length ∧ 0 ≤ v2 ∧ v2.natAbs < 2 ^ 2700 ∧ 0 ≤ v3 ∧ v3 ≤ 4 ∧ (0 < v3 → 1 ≤ c1) ∧ 0 ≤ v4 ∧ v4 ≤ t ∧ 0 ≤ seed ∧ seed < 2 ^ 58
theorem StoreOk.mono {t u : Nat} {os : List OD} (h : StoreOk t os) (l : t ≤ u) : StoreOk u os := by
  obtain ⟨cells, c1, v2, v3, v4, seed, e, h0, h1, h2, h3, h4, h5, h6, h7, h8, h9, h10, h11⟩ := h
  exact ⟨cells, c1, v2, v3, v4, seed, e, h0, h1, h2, h3, h4, h5, h6, h7, h8, h9, by omega, h11⟩
def lim : Nat → Int
  | 0 => 10 ^ 50
  | k + 1 => lim k * lim k
theorem lim_mul : ∀ k, k < 4 → CMulW (lim k) (lim k)
  | 0, _ => cmulB 1400 1400 (i := lim 0) (j := lim 0) (by decide +kernel) (by decide +kernel)
  | 1, _ => cmulB 1400 1400 (i := lim 1) (j := lim 1) (by decide +kernel) (by decide +kernel)
  | 2, _ => cmulB 1400 1400 (i := lim 2) (j := lim 2) (by decide +kernel) (by decide +kernel)
  | 3, _ => cmulB 1400 1400 (i := lim 3) (j := lim 3) (by decide +kernel) (by decide +kernel)
  | n + 4, h => by omega
theorem lim4 : 0 < lim 4 ∧ lim 4 < 2 ^ 2690 := ⟨by decide +kernel, by decide +kernel⟩
theorem cutD_mem {xs : List D} {lo hi : Option Int} {d : D} (h : d ∈ cutD xs lo hi) : d ∈ xs := List.mem_of_mem_drop (List.mem_of_mem_take h)
theorem cutD_len (xs : List D) (lo hi : Option Int) : (cutD xs lo hi).length ≤ xs.length := by
  unfold cutD
  rw [List.length_take, List.length_drop]
  omega
end VL
namespace VL
theorem r_for {u : TVI} {tG : TVG} {sb : TSV} {De : De} {env e1 : En} (I : Nat → En → Prop) (n : Nat) (ys : Nat → D) (hu : ∀ Q : Nat → (Nat → D) → En → Prop, Q n ys e1 → u env Q) (h0 : I 0 e1)
    (hs : ∀ m e, m < n → I m e → tG (ys m) e fun e2 => sb { De with nx := I (m + 1), ct := I (m + 1), bk := De.nx } e2) (hd : ∀ e, I n e → De.nx e) : sFor u tG sb De env := hu _ ⟨I, h0, hs, hd⟩
theorem r_lc {u : TVI} {tG : TVG} {ss : TB} {se : TV} {vs : List Nat} {env e1 : En} {Q : Rv → En → Prop} (I : Nat → List D → En → Prop) (n : Nat) (ys : Nat → D) (hu : ∀ Q : Nat → (Nat → D) → En → Prop, Q n ys e1 → u env Q) (h0 : I 0 [] (wipeE e1 vs))
    (hs : ∀ m acc e, m < n → I m acc e → tG (ys m) e fun e2 => ss e2 fun b e3 => match b with
      | true => se e3 fun r e4 => r.asT fun o => acc.length < PySem.sizeLine ∧ I (m + 1) (acc ++ [frz o]) (wipeE e4 vs)
      | false => I (m + 1) acc (wipeE e3 vs)) (hd : ∀ acc e, I n acc e → Q (.t (.lst (acc.map .st))) e) : sLc u tG ss se vs env Q := hu _ ⟨I, h0, hs, hd⟩
theorem r_lcO {u : TVI} {tG : TVG} {ss : TB} {se : TV} {vs : List Nat} {env e1 : En} {Q : Rv → En → Prop} (I : Nat → List OD → En → Prop) (n : Nat) (ys : Nat → D) (hu : ∀ Q : Nat → (Nat → D) → En → Prop, Q n ys e1 → u env Q) (h0 : I 0 [] (wipeE e1 vs))
    (hs : ∀ m acc e, m < n → I m acc e → tG (ys m) e fun e2 => ss e2 fun b e3 => match b with
      | true => se e3 fun r e4 => r.asT fun o => acc.length < PySem.sizeLine ∧ I (m + 1) (acc ++ [o]) (wipeE e4 vs)
      | false => I (m + 1) acc (wipeE e3 vs)) (hd : ∀ acc e, I n acc e → Q (.t (.lst acc)) e) : sLcO u tG ss se vs env Q := hu _ ⟨I, h0, hs, hd⟩
theorem r_while {s : TB} {sb : TSV} {De : De} {env : En} (I : Nat → En → Prop) (m0 : Nat) (h0 : I m0 env) (hs : ∀ m e, I m e → s e fun b e2 => match b with
    | true => sb { De with nx := fun e3 => ∃ m', m' < m ∧ I m' e3, ct := fun e3 => ∃ m', m' < m ∧ I m' e3, bk := De.nx } e2
    | false => De.nx e2) : sWhile s sb De env := ⟨I, ⟨m0, h0⟩, hs⟩
end VL
namespace VL
theorem st_snoc (l : List D) (c : D) : List.map OD.st l ++ [OD.st c] = List.map OD.st (l ++ [c]) := by rw [List.map_append]; rfl
theorem int_snoc (l : List Int) (c : Int) : List.map D.int l ++ [D.int c] = List.map D.int (l ++ [c]) := by rw [List.map_append]; rfl
end VL
namespace VL
open PySem PySem.Spec PyProof.Rows L2
section
variable {α : Type} {a b c d e f : α} {l : List α}
theorem at_0 : atI (a :: l) 0 = some a := by rw [atI_pos _ _ (by decide)]; rfl
theorem at_1 : atI (a :: b :: l) 1 = some b := by rw [atI_pos _ _ (by decide)]; rfl
theorem at_2 : atI (a :: b :: c :: l) 2 = some c := by rw [atI_pos _ _ (by decide)]; rfl
theorem at_3 : atI (a :: b :: c :: d :: l) 3 = some d := by rw [atI_pos _ _ (by decide)]; rfl
theorem at_4 : atI (a :: b :: c :: d :: e :: l) 4 = some e := by rw [atI_pos _ _ (by decide)]; rfl
theorem at_5 : atI (a :: b :: c :: d :: e :: f :: l) 5 = some f := by rw [atI_pos _ _ (by decide)]; rfl
end
theorem ix6_1 : ixN 6 1 = some 1 := by decide
theorem ix6_2 : ixN 6 2 = some 2 := by decide
theorem ix6_3 : ixN 6 3 = some 3 := by decide
theorem ix6_4 : ixN 6 4 = some 4 := by decide
end VL
namespace VL
theorem r_cut {t u : TSV} {D : De} {env : En} (P : En → Prop) (h1 : ∀ R : En → Prop, (∀ e, P e → R e) → t { D with nx := R } env) (h2 : ∀ e, P e → u D e) : sSeq t u D env := h1 (u D) h2
theorem seq_eq {t u : TSV} {D : De} {env : En} : sSeq t u D env = t { D with nx := u D } env := rfl
end VL
namespace VL
def TT (m : Nat) : Int := 2 ^ (60 * (m + 1))
theorem TT_succ (m : Nat) : TT (m + 1) = TT m * 1152921504606846976 := by
  unfold TT
  rw [show 60 * (m + 1 + 1) = 60 * (m + 1) + 60 by omega, Int.pow_add]
  rfl
theorem TT_pos (m : Nat) : 1 ≤ TT m := by
  unfold TT
  have : (0 : Int) < 2 ^ (60 * (m + 1)) := Int.pow_pos (by decide)
  omega
theorem TT_bits {m : Nat} {i : Int} (hm : m ≤ 40) (h0 : 0 ≤ i) (h : i ≤ TT m) : i.natAbs < 2 ^ 2500 := by
  have h1 : i.natAbs ≤ 2 ^ (60 * (m + 1)) := by
    have e : ((i.natAbs : Nat) : Int) = i := Int.natAbs_of_nonneg h0
    have : ((i.natAbs : Nat) : Int) ≤ ((2 ^ (60 * (m + 1)) : Nat) : Int) := by rw [e]; exact_mod_cast h
    exact_mod_cast this
  exact Nat.lt_of_le_of_lt h1 (Nat.pow_lt_pow_right (by decide) (by omega))
end VL
namespace VL
open PySem PySem.Spec PyProof.Rows L2
theorem swap_perm {α : Type} {l : List α} {i j : Nat} {a b : α} (hi : l[i]? = some a) (hj : l[j]? = some b) : ((l.set i b).set j a).Perm l := by
  obtain ⟨h1, e1⟩ := List.getElem?_eq_some_iff.mp hi
  obtain ⟨h2, e2⟩ := List.getElem?_eq_some_iff.mp hj
  subst e1 e2
  exact List.set_set_perm h1 h2
theorem st_set (l : List D) (k : Nat) (c : D) : (List.map OD.st l).set k (.st c) = List.map OD.st (l.set k c) := by rw [List.map_set]
end VL
namespace VL
def endc (sizes starts pack : List Int) : List Int := (List.range sizes.length).map fun (v : Nat) => pack.getD v 0 - sizes.getD v 0 + ((starts.count (v : Int) : Nat) : Int)
theorem endc_len (sizes starts pack : List Int) : (endc sizes starts pack).length = sizes.length := by simp [endc]
theorem endc_get {sizes starts pack : List Int} {y : Int} (h0 : 0 ≤ y) (h1 : y < sizes.length) : (endc sizes starts pack)[y.toNat]? = some (pack.getD y.toNat 0 - sizes.getD y.toNat 0 + ((starts.count y : Nat) : Int)) := by
  unfold endc
  rw [List.getElem?_map, List.getElem?_range (by omega)]
  show some (pack.getD y.toNat 0 - sizes.getD y.toNat 0 + ((starts.count ((y.toNat : Nat) : Int) : Nat) : Int)) = some _
  rw [Int.toNat_of_nonneg h0]
theorem endc_snoc {sizes starts pack : List Int} {y : Int} (h0 : 0 ≤ y) (h1 : y < sizes.length) : endc sizes (starts ++ [y]) pack = (endc sizes starts pack).set y.toNat (pack.getD y.toNat 0 - sizes.getD y.toNat 0 + ((starts.count y : Nat) : Int) + 1) := by
  apply List.ext_getElem
  · simp [endc]
  · intro i h2 h3
    rw [List.getElem_set]
    simp only [endc, List.getElem_map, List.getElem_range, List.count_append, List.count_singleton]
    by_cases e : y.toNat = i
    · have e2 : y = (i : Int) := by omega
      rw [if_pos e]
      subst e2
      simp
      omega
    · rw [if_neg e]
      have : (y == (i : Int)) = false := by simp; omega
      simp [this]
theorem getD_some {l : List Int} {i : Nat} {x : Int} (h : l[i]? = some x) : l.getD i 0 = x := by rw [List.getD_eq_getElem?_getD, h]; rfl
theorem map_at {l : List Int} {i : Int} {x : Int} (h0 : 0 ≤ i) (h : l[i.toNat]? = some x) : L2.atI (l.map D.int) i = some (D.int x) := by rw [atI_pos _ _ h0, List.getElem?_map, h]; rfl
end VL
namespace VL
theorem int_set (l : List Int) (k : Nat) (c : Int) : (List.map D.int l).set k (.int c) = List.map D.int (l.set k c) := by rw [List.map_set]
end VL
-- V25
set_option maxHeartbeats 1000000
namespace VL
abbrev Piles := List (List Int)
def pileAt (pss : Piles) (v : Int) : List Int := pss.getD v.toNat []
def usedAt (u : List Int) (v : Int) : Int := u.getD v.toNat 0
def nextS (pss : Piles) (u : List Int) (v : Int) : Option Int := (pileAt pss v)[(usedAt u v).toNat]?
abbrev RS := List (List Int) × List Int × Int
def hop (pss : Piles) (j : Int) : Nat → RS → RS
  | 0, s => s
  | k + 1, (l, u, v) => match nextS pss u v with
    | none => (l, u, v)
    | some w => hop pss j k (l ++ [[j, v, w]], u.set v.toNat (usedAt u v + 1), w)
abbrev RT := List (List Int) × List Int × List Int
def run1 (pss : Piles) (fuel : Nat) (j : Int) (s : RT) (v : Int) : RT := let r := hop pss j fuel (s.1, s.2.1, v); (r.1, r.2.1, s.2.2 ++ [r.2.2])
def runL (pss : Piles) (fuel : Nat) : Nat → List Int → RT → RT
  | _, [], s => s
  | j, v :: r, s => runL pss fuel (j + 1) r (run1 pss fuel j s v)
def total (pss : Piles) : Nat := (pss.map List.length).sum
def run0 (pss : Piles) : RT := ([], List.replicate pss.length 0, [])
def runP (pss : Piles) (starts : List Int) : RT := runL pss (total pss + 1) 0 starts (run0 pss)
theorem runL_snoc (pss : Piles) (fuel : Nat) : ∀ (xs : List Int) (j : Nat) (s : RT) (y : Int), runL pss fuel j (xs ++ [y]) s = run1 pss fuel ((j + xs.length : Nat) : Int) (runL pss fuel j xs s) y
  | [], j, s, y => by simp [runL]
  | x :: xs, j, s, y => by
    show runL pss fuel (j + 1) (xs ++ [y]) (run1 pss fuel j s x) = _
    rw [runL_snoc pss fuel xs (j + 1)]
    show run1 _ _ _ (runL pss fuel (j + 1) xs (run1 pss fuel j s x)) y = run1 _ _ _ (runL pss fuel (j + 1) xs (run1 pss fuel j s x)) y
    rw [show j + 1 + xs.length = j + (x :: xs).length by simp; omega]
theorem hop_step {pss : Piles} {j : Int} {k : Nat} {l : List (List Int)} {u : List Int} {v w : Int} (h : nextS pss u v = some w) : hop pss j (k + 1) (l, u, v) = hop pss j k (l ++ [[j, v, w]], u.set v.toNat (usedAt u v + 1), w) := by
  show (match nextS pss u v with
    | none => (l, u, v)
    | some w => hop pss j k (l ++ [[j, v, w]], u.set v.toNat (usedAt u v + 1), w)) = _
  rw [h]
theorem hop_stop {pss : Piles} {j : Int} {l : List (List Int)} {u : List Int} {v : Int} (h : nextS pss u v = none) : ∀ k, hop pss j k (l, u, v) = (l, u, v)
  | 0 => rfl
  | k + 1 => by
    show (match nextS pss u v with
      | none => (l, u, v)
      | some w => hop pss j k (l ++ [[j, v, w]], u.set v.toNat (usedAt u v + 1), w)) = _
    rw [h]
def NamesOk (pss : Piles) : Prop := ∀ ns ∈ pss, ∀ x ∈ ns, 0 ≤ x ∧ x < pss.length
def InN (pss : Piles) (v : Int) : Prop := 0 ≤ v ∧ v < pss.length
def UsedOk (pss : Piles) (u : List Int) : Prop := u.length = pss.length ∧ ∀ (i : Nat) (p : List Int) (x : Int), pss[i]? = some p → u[i]? = some x → 0 ≤ x ∧ x ≤ p.length
theorem pileAt_get {pss : Piles} {v : Int} (h : InN pss v) : pss[v.toNat]? = some (pileAt pss v) := by
  obtain ⟨h0, h1⟩ := h
  unfold pileAt
  rw [List.getD_eq_getElem?_getD, List.getElem?_eq_getElem (by omega)]; rfl
theorem usedAt_get {pss : Piles} {u : List Int} {v : Int} (hu : u.length = pss.length) (h : InN pss v) : u[v.toNat]? = some (usedAt u v) := by
  obtain ⟨h0, h1⟩ := h
  unfold usedAt
  rw [List.getD_eq_getElem?_getD, List.getElem?_eq_getElem (by omega)]; rfl
theorem UsedOk.at {pss : Piles} {u : List Int} {v : Int} (hu : UsedOk pss u) (h : InN pss v) : 0 ≤ usedAt u v ∧ usedAt u v ≤ (pileAt pss v).length := hu.2 _ _ _ (pileAt_get h) (usedAt_get hu.1 h)
theorem next_iff {pss : Piles} {u : List Int} {v : Int} (hu : UsedOk pss u) (h : InN pss v) : (usedAt u v < (pileAt pss v).length ↔ ∃ w, nextS pss u v = some w) := by
  obtain ⟨h0, h1⟩ := hu.at h
  unfold nextS
  constructor
  · intro q
    exact ⟨_, List.getElem?_eq_getElem (by omega)⟩
  · rintro ⟨w, q⟩
    have := (List.getElem?_eq_some_iff.mp q).1
    omega
theorem next_none {pss : Piles} {u : List Int} {v : Int} (hu : UsedOk pss u) (h : InN pss v) (q : ¬ usedAt u v < (pileAt pss v).length) : nextS pss u v = none := by
  cases e : nextS pss u v with
  | none => rfl
  | some w => exact absurd ((next_iff hu h).mpr ⟨w, e⟩) q
theorem next_in {pss : Piles} {u : List Int} {v w : Int} (hn : NamesOk pss) (h : InN pss v) (q : nextS pss u v = some w) : InN pss w :=
  hn _ (List.mem_of_getElem? (pileAt_get h)) w (List.mem_of_getElem? q)
theorem UsedOk.step {pss : Piles} {u : List Int} {v w : Int} (hu : UsedOk pss u) (h : InN pss v) (q : nextS pss u v = some w) : UsedOk pss (u.set v.toNat (usedAt u v + 1)) := by
  refine ⟨by rw [List.length_set]; exact hu.1, fun i p x hp hx => ?_⟩
  by_cases e : v.toNat = i
  · subst e
    have hl : v.toNat < u.length := by have := hu.1; obtain ⟨a, b⟩ := h; omega
    rw [List.getElem?_set_self hl] at hx
    cases hx
    rw [pileAt_get h] at hp
    cases hp
    obtain ⟨h0, _⟩ := hu.at h
    have := (next_iff hu h).mpr ⟨w, q⟩
    omega
  · rw [List.getElem?_set_ne e] at hx
    exact hu.2 i p x hp hx
def left : Piles → List Int → Nat
  | p :: ps, x :: u => (p.length - x.toNat) + left ps u
  | _, _ => 0
theorem left_set : ∀ {pss : Piles} {u : List Int} {i : Nat} {p : List Int} {x : Int}, pss[i]? = some p → u[i]? = some x → 0 ≤ x → x < p.length → left pss (u.set i (x + 1)) + 1 = left pss u
  | [], _, _, _, _, h, _, _, _ => by simp at h
  | _ :: _, [], _, _, _, _, h, _, _ => by simp at h
  | p :: ps, y :: u, 0, _, _, h1, h2, h3, h4 => by
    simp at h1 h2; subst h1; subst h2
    show (p.length - (y + 1).toNat) + left ps u + 1 = (p.length - y.toNat) + left ps u
    omega
  | p :: ps, y :: u, i + 1, q, x, h1, h2, h3, h4 => by
    have := left_set (pss := ps) (u := u) (i := i) (p := q) (x := x) (by simpa using h1) (by simpa using h2) h3 h4
    show (p.length - y.toNat) + left ps (u.set i (x + 1)) + 1 = (p.length - y.toNat) + left ps u
    omega
theorem left_step {pss : Piles} {u : List Int} {v w : Int} (hu : UsedOk pss u) (h : InN pss v) (q : nextS pss u v = some w) : left pss (u.set v.toNat (usedAt u v + 1)) + 1 = left pss u :=
  left_set (pileAt_get h) (usedAt_get hu.1 h) (hu.at h).1 ((next_iff hu h).mpr ⟨w, q⟩)
theorem left_zero : ∀ (pss : Piles), left pss (List.replicate pss.length 0) = total pss
  | [] => rfl
  | p :: ps => by
    show (p.length - (0 : Int).toNat) + left ps (List.replicate ps.length 0) = p.length + total ps
    rw [left_zero ps]; rfl
theorem used_zero (pss : Piles) : UsedOk pss (List.replicate pss.length 0) := ⟨by simp, fun i p x hp hx => by
  rw [List.getElem?_replicate] at hx
  split at hx
  · cases hx; exact ⟨by decide, by omega⟩
  · cases hx⟩
theorem left_le : ∀ {pss : Piles} {u : List Int}, left pss u ≤ total pss
  | [], _ => by simp [left]
  | p :: ps, [] => by simp [left]
  | p :: ps, x :: u => by
    have := left_le (pss := ps) (u := u)
    show (p.length - x.toNat) + left ps u ≤ p.length + total ps
    omega
theorem hop_ok {pss : Piles} {j : Int} (hn : NamesOk pss) : ∀ (k : Nat) {l : List (List Int)} {u : List Int} {v : Int}, UsedOk pss u → InN pss v →
    UsedOk pss (hop pss j k (l, u, v)).2.1 ∧ InN pss (hop pss j k (l, u, v)).2.2
  | 0, l, u, v, hu, hv => ⟨hu, hv⟩
  | k + 1, l, u, v, hu, hv => by
    cases e : nextS pss u v with
    | none => rw [hop_stop e]; exact ⟨hu, hv⟩
    | some w => rw [hop_step e]; exact hop_ok hn k (hu.step hv e) (next_in hn hv e)
theorem runL_ok {pss : Piles} {fuel : Nat} (hn : NamesOk pss) : ∀ (xs : List Int) (j : Nat) (s : RT), (∀ x ∈ xs, InN pss x) → UsedOk pss s.2.1 → (∀ x ∈ s.2.2, InN pss x) →
    UsedOk pss (runL pss fuel j xs s).2.1 ∧ (∀ x ∈ (runL pss fuel j xs s).2.2, InN pss x) ∧ (runL pss fuel j xs s).2.2.length = s.2.2.length + xs.length
  | [], j, s, _, hu, hs => ⟨hu, hs, rfl⟩
  | x :: xs, j, (l, u, st), hx, hu, hs => by
    obtain ⟨a, b⟩ := hop_ok (pss := pss) (j := j) hn fuel (l := l) hu (hx x List.mem_cons_self)
    obtain ⟨c, d, e⟩ := runL_ok (fuel := fuel) hn xs (j + 1) (run1 pss fuel j (l, u, st) x) (fun y hy => hx y (List.mem_cons_of_mem _ hy)) a (fun y hy => by
      rcases List.mem_append.mp hy with h | h
      · exact hs y h
      · rw [List.mem_singleton.mp h]; exact b)
    refine ⟨c, d, ?_⟩
    have e1 : (runL pss fuel j (x :: xs) (l, u, st)).2.2.length = (run1 pss fuel j (l, u, st) x).2.2.length + xs.length := e
    rw [e1]
    show (st ++ [_]).length + xs.length = st.length + (xs.length + 1)
    rw [List.length_append, List.length_singleton]; omega
end VL
namespace VL
theorem hop_sum {pss : Piles} {j : Int} (hn : NamesOk pss) : ∀ (k : Nat) {l : List (List Int)} {u : List Int} {v : Int}, UsedOk pss u → InN pss v →
    (hop pss j k (l, u, v)).1.length + left pss (hop pss j k (l, u, v)).2.1 = l.length + left pss u
  | 0, l, u, v, hu, hv => rfl
  | k + 1, l, u, v, hu, hv => by
    cases e : nextS pss u v with
    | none => rw [hop_stop e]
    | some w =>
      rw [hop_step e, hop_sum hn k (hu.step hv e) (next_in hn hv e), List.length_append, List.length_singleton]
      have := left_step hu hv e
      omega
theorem runL_sum {pss : Piles} {fuel : Nat} (hn : NamesOk pss) : ∀ (xs : List Int) (j : Nat) (s : RT), (∀ x ∈ xs, InN pss x) → UsedOk pss s.2.1 →
    (runL pss fuel j xs s).1.length + left pss (runL pss fuel j xs s).2.1 = s.1.length + left pss s.2.1
  | [], j, s, _, _ => rfl
  | x :: xs, j, (l, u, st), hx, hu => by
    have a := (hop_ok (pss := pss) (j := j) hn fuel (l := l) hu (hx x List.mem_cons_self)).1
    have b := hop_sum (pss := pss) (j := j) hn fuel (l := l) hu (hx x List.mem_cons_self)
    have c := runL_sum (fuel := fuel) hn xs (j + 1) (run1 pss fuel j (l, u, st) x) (fun y hy => hx y (List.mem_cons_of_mem _ hy)) a
    exact c.trans b
end VL
namespace VL
theorem mem_total : ∀ {pss : Piles} {i : Nat} {p : List Int}, pss[i]? = some p → p.length ≤ total pss
  | [], _, _, h => by simp at h
  | q :: ps, 0, p, h => by
    simp at h; subst h
    show q.length ≤ q.length + total ps
    omega
  | q :: ps, i + 1, p, h => by
    have := mem_total (pss := ps) (i := i) (p := p) (by simpa using h)
    show p.length ≤ q.length + total ps
    omega
theorem pile_le {pss : Piles} {v : Int} (h : InN pss v) : (pileAt pss v).length ≤ total pss := mem_total (pileAt_get h)
end VL
-- V26
set_option maxHeartbeats 1000000
namespace VL
def optD : Option Int → D
  | none => .non
  | some x => .int x
abbrev Arr := List (Option Int)
def ArrOk (a : Arr) : Prop := ∀ x, some x ∈ a → 0 ≤ x ∧ x < a.length
theorem getD_opt {a : Arr} {m : Nat} {o : Option Int} {d : D} (h : a[m]? = some o) : (a.map optD).getD m d = optD o := by
  rw [List.getD_eq_getElem?_getD, List.getElem?_map, h]; rfl
theorem lastD_opt (ns : List Int) : lastD ns = optD ns.getLast? := by
  unfold lastD
  cases ns.getLast? <;> rfl
def lackP (pss : Piles) : List Int := (List.range pss.length).map fun (v : Nat) => max 0 (((pss.getD v []).length : Int) - (tally pss.length pss.flatten).getD v 0)
end VL
namespace VL
theorem lackP_len (pss : Piles) : (lackP pss).length = pss.length := by unfold lackP; rw [List.length_map, List.length_range]
theorem lackP_take (pss : Piles) {m : Nat} {ns : List Int} (h : pss[m]? = some ns) : (lackP pss).take (m + 1) = (lackP pss).take m ++ [max 0 ((ns.length : Int) - (tally pss.length pss.flatten).getD m 0)] := by
  have hm : m < pss.length := (List.getElem?_eq_some_iff.mp h).1
  have e : (lackP pss)[m]? = some (max 0 ((ns.length : Int) - (tally pss.length pss.flatten).getD m 0)) := by
    unfold lackP
    rw [List.getElem?_map, List.getElem?_range hm]
    show some (max 0 (((pss.getD m []).length : Int) - _)) = _
    rw [List.getD_eq_getElem?_getD, h]; rfl
  rw [take_snoc e]
end VL
namespace VL
theorem tally_nat {n : Nat} {row : List Int} {m : Nat} (h : m < n) : (tally n row)[m]? = some ((row.count (m : Int) : Nat) : Int) := by
  have := tally_get (n := n) (row := row) (y := (m : Int)) (by omega) (by omega)
  simpa using this
theorem tally_natD {n : Nat} {row : List Int} {m : Nat} (h : m < n) : (tally n row).getD m 0 = ((row.count (m : Int) : Nat) : Int) := by
  rw [List.getD_eq_getElem?_getD, tally_nat h]; rfl
end VL
namespace VL
def minI : List Int → Int
  | [] => 0
  | [x] => x
  | x :: r => min x (minI r)
def fromLeast (r : List Int) : List Int := r.drop (r.idxOf (minI r)) ++ r.take (r.idxOf (minI r))
end VL
namespace VL
theorem minI_spec : ∀ {r : List Int}, r ≠ [] → minI r ∈ r ∧ ∀ y ∈ r, minI r ≤ y
  | [], h => absurd rfl h
  | [x], _ => ⟨List.mem_singleton_self x, fun y hy => by rw [List.mem_singleton.mp hy]; exact Int.le_refl _⟩
  | x :: z :: r, _ => by
    obtain ⟨h1, h2⟩ := minI_spec (r := z :: r) (by simp)
    have e : minI (x :: z :: r) = min x (minI (z :: r)) := rfl
    rw [e]
    constructor
    · by_cases q : x ≤ minI (z :: r)
      · rw [Int.min_eq_left q]; exact List.mem_cons_self
      · rw [Int.min_eq_right (by omega)]; exact List.mem_cons_of_mem _ h1
    · intro y hy
      rcases List.mem_cons.mp hy with h | h
      · subst h; exact Int.min_le_left _ _
      · exact Int.le_trans (Int.min_le_right _ _) (h2 y h)
theorem idx_spec {r : List Int} {x : Int} (h : x ∈ r) : r[r.idxOf x]? = some x ∧ ∀ m, m < r.idxOf x → r[m]? ≠ some x := by
  have hl : r.idxOf x < r.length := List.idxOf_lt_length_iff.mpr h
  refine ⟨by rw [List.getElem?_eq_getElem hl, List.getElem_idxOf hl], fun m hm e => ?_⟩
  obtain ⟨h1, h2⟩ := List.getElem?_eq_some_iff.mp e
  have := List.not_of_lt_findIdx (p := (· == x)) (xs := r) (i := m) (by unfold List.idxOf at hm; exact hm)
  simp [h2] at this
end VL
namespace VL
theorem cut_from (ds : List D) {j : Nat} (h : j ≤ ds.length) : cutD ds (some (j : Int)) none = ds.drop j := by
  have e : HT.sIx ds.length 0 (some (j : Int)) = j := by rw [HT.sIx_nat]; omega
  unfold cutD
  rw [e, show HT.sIx ds.length ds.length none = ds.length from rfl, List.take_of_length_le (by rw [List.length_drop]; exact Nat.le_refl _)]
theorem cut_to (ds : List D) {j : Nat} (h : j ≤ ds.length) : cutD ds none (some (j : Int)) = ds.take j := by
  have e : HT.sIx ds.length ds.length (some (j : Int)) = j := by rw [HT.sIx_nat]; omega
  unfold cutD
  rw [e, show HT.sIx ds.length 0 none = 0 from rfl, List.drop_zero, Nat.sub_zero]
end VL
namespace VL
abbrev WS := List (Option Int) × List Int × Option Int
def walkedAt (W : List (Option Int)) (v : Int) : Option Int := (W[v.toNat]?).join
def walkR (a : Arr) (v : Int) : Nat → WS → WS
  | 0, s => s
  | k + 1, (W, way, some h) => match walkedAt W h with
    | none => walkR a v k (W.set h.toNat (some v), way ++ [h], (a[h.toNat]?).join)
    | some _ => (W, way, some h)
  | _ + 1, (W, way, none) => (W, way, none)
def ringAdd (W : List (Option Int)) (way : List Int) (v : Int) (fs : List (List Int)) : Option Int → List (List Int)
  | some h => if walkedAt W h = some v then fs ++ [fromLeast (way.drop (way.idxOf h))] else fs
  | none => fs
def ringStep (a : Arr) (s : List (Option Int) × List (List Int)) (v : Int) : List (Option Int) × List (List Int) :=
  ((walkR a v (a.length + 1) (s.1, [], some v)).1, ringAdd (walkR a v (a.length + 1) (s.1, [], some v)).1 (walkR a v (a.length + 1) (s.1, [], some v)).2.1 v s.2 (walkR a v (a.length + 1) (s.1, [], some v)).2.2)
def ringsL (a : Arr) : Nat → Nat → List (Option Int) × List (List Int) → List (Option Int) × List (List Int)
  | _, 0, s => s
  | v, k + 1, s => ringsL a (v + 1) k (ringStep a s v)
def ringsN (a : Arr) : Nat → List (Option Int) × List (List Int)
  | 0 => (List.replicate a.length none, [])
  | m + 1 => ringStep a (ringsN a m) m
def ringsW (a : Arr) : List (List Int) := (ringsN a a.length).2
end VL
namespace VL
def SortedOf (l rs : List (List Int)) : Prop := rs.Perm l ∧ rs.Pairwise (fun a b => HT.lexLt b a = false)
structure WInv (a : Arr) (v : Int) (W : List (Option Int)) (way : List Int) (here : Option Int) : Prop where
  len : W.length = a.length
  own : ∀ (i : Nat) (x : Int), W[i]? = some (some x) → x < v ∨ x = v ∧ (i : Int) ∈ way
  cnt : way.length + W.count none ≤ a.length
  inn : ∀ h, here = some h → 0 ≤ h ∧ h < a.length
theorem walkedAt_get {a : Arr} {W : List (Option Int)} {h : Int} (hl : W.length = a.length) (h0 : 0 ≤ h) (h1 : h < a.length) : W[h.toNat]? = some (walkedAt W h) := by
  unfold walkedAt
  rw [List.getElem?_eq_getElem (by omega)]; rfl
theorem arr_get {a : Arr} {h : Int} (h0 : 0 ≤ h) (h1 : h < a.length) : a[h.toNat]? = some (a[h.toNat]?).join := by
  rw [List.getElem?_eq_getElem (by omega)]; rfl
theorem WInv.step {a : Arr} {v h : Int} {W : List (Option Int)} {way : List Int} (ha : ArrOk a) (i : WInv a v W way (some h)) (q : walkedAt W h = none) :
    WInv a v (W.set h.toNat (some v)) (way ++ [h]) ((a[h.toNat]?).join) ∧ (W.set h.toNat (some v)).count none + 1 = W.count none := by
  obtain ⟨h0, h1⟩ := i.inn h rfl
  have g := walkedAt_get i.len h0 h1
  rw [q] at g
  have hlt : h.toNat < W.length := by rw [i.len]; omega
  have gg : W[h.toNat] = none := (List.getElem?_eq_some_iff.mp g).2
  have hpos : 0 < W.count none := List.count_pos_iff.mpr (List.mem_of_getElem? g)
  have hc : (W.set h.toNat (some v)).count none + 1 = W.count none := by
    rw [List.count_set hlt, gg]
    simp
    omega
  refine ⟨⟨by rw [List.length_set]; exact i.len, fun k x hk => ?_, ?_, fun z hz => ?_⟩, hc⟩
  · by_cases e : h.toNat = k
    · subst e
      rw [List.getElem?_set_self hlt] at hk
      cases hk
      exact .inr ⟨rfl, List.mem_append_right _ (by rw [Int.toNat_of_nonneg h0]; exact List.mem_singleton_self _)⟩
    · rw [List.getElem?_set_ne e] at hk
      rcases i.own k x hk with r | ⟨r, m⟩
      · exact .inl r
      · exact .inr ⟨r, List.mem_append_left _ m⟩
  · have := i.cnt
    rw [List.length_append, List.length_singleton]; omega
  · have := arr_get (a := a) h0 h1
    rw [hz] at this
    exact ha z (List.mem_of_getElem? this)
end VL
namespace VL
theorem walkR_go {a : Arr} {v h : Int} {k : Nat} {W : List (Option Int)} {way : List Int} (q : walkedAt W h = none) : walkR a v (k + 1) (W, way, some h) = walkR a v k (W.set h.toNat (some v), way ++ [h], (a[h.toNat]?).join) := by
  show (match walkedAt W h with
    | none => walkR a v k (W.set h.toNat (some v), way ++ [h], (a[h.toNat]?).join)
    | some _ => (W, way, some h)) = _
  rw [q]
theorem walkR_stop {a : Arr} {v h x : Int} {W : List (Option Int)} {way : List Int} (q : walkedAt W h = some x) : ∀ k, walkR a v k (W, way, some h) = (W, way, some h)
  | 0 => rfl
  | k + 1 => by
    show (match walkedAt W h with
      | none => walkR a v k (W.set h.toNat (some v), way ++ [h], (a[h.toNat]?).join)
      | some _ => (W, way, some h)) = _
    rw [q]
theorem walkR_none {a : Arr} {v : Int} {W : List (Option Int)} {way : List Int} : ∀ k, walkR a v k (W, way, none) = (W, way, none)
  | 0 => rfl
  | _ + 1 => rfl
structure RInv (a : Arr) (m : Nat) : Prop where
  len : (ringsN a m).1.length = a.length
  own : ∀ (i : Nat) (x : Int), (ringsN a m).1[i]? = some (some x) → x < m
  few : (ringsN a m).2.length ≤ m
  ne : ∀ r ∈ (ringsN a m).2, r ≠ []
theorem RInv.zero (a : Arr) : RInv a 0 where
  len := List.length_replicate
  own := fun i x h => by
    rw [show (ringsN a 0).1 = List.replicate a.length none from rfl, List.getElem?_replicate] at h
    by_cases q : i < a.length
    · rw [if_pos q] at h; cases h
    · rw [if_neg q] at h; cases h
  few := Nat.le_refl _
  ne := fun r h => by cases h
theorem cnt_le {W : List (Option Int)} : W.count none ≤ W.length := List.count_le_length
theorem RInv.walk {a : Arr} {m : Nat} (i : RInv a m) (hm : m < a.length) : WInv a m (ringsN a m).1 [] (some (m : Int)) := ⟨i.len, fun k x h => .inl (i.own k x h), by have := cnt_le (W := (ringsN a m).1); have := i.len; simp only [List.length_nil]; omega, fun h e => by cases e; omega⟩
end VL
namespace VL
theorem optD_none : optD none = .non := rfl
theorem optD_some (x : Int) : optD (some x) = .int x := rfl
theorem ringStep_eq {a : Arr} {s : List (Option Int) × List (List Int)} {v : Int} {W : List (Option Int)} {way : List Int} {here : Option Int} (h : walkR a v (a.length + 1) (s.1, [], some v) = (W, way, here)) :
    ringStep a s v = (W, ringAdd W way v s.2 here) := by
  unfold ringStep
  rw [h]
theorem fromLeast_ne {r : List Int} (h : r ≠ []) : fromLeast r ≠ [] := by
  intro e
  have hl : (fromLeast r).length = 0 := by rw [e]; rfl
  unfold fromLeast at hl
  rw [List.length_append, List.length_drop, List.length_take] at hl
  have := List.length_pos_iff.mpr h
  omega
theorem RInv.next {a : Arr} {m : Nat} (i : RInv a m) {W : List (Option Int)} {way : List Int} {here : Option Int} {fs : List (List Int)} (wi : WInv a m W way here) (e : ringsN a (m + 1) = (W, fs)) (h1 : fs = (ringsN a m).2 ∨ ∃ r, r ≠ [] ∧ fs = (ringsN a m).2 ++ [r]) : RInv a (m + 1) where
  len := by rw [e]; exact wi.len
  own := fun k x h => by
    rw [e] at h
    rcases wi.own k x h with q | ⟨q, _⟩ <;> omega
  few := by
    rw [e]
    show fs.length ≤ m + 1
    have := i.few
    rcases h1 with q | ⟨r, _, q⟩
    · rw [q]; omega
    · rw [q, List.length_append, List.length_singleton]; omega
  ne := fun r hr => by
    rw [e] at hr
    rcases h1 with q | ⟨r', n', q⟩
    · rw [q] at hr; exact i.ne r hr
    · rw [q] at hr
      rcases List.mem_append.mp hr with z | z
      · exact i.ne r z
      · rw [List.mem_singleton.mp z]; exact n'
end VL
namespace VL
def lackArr (pss : Piles) : Arr := (List.range pss.length).map fun (v : Nat) => if ((pss.getD v []).length : Int) < ((pss.flatten.count (v : Int) : Nat) : Int) then none else (pss.getD v []).getLast?
def lackUpTo (pss : Piles) (m : Nat) : Arr := (lackArr pss).take m ++ (pss.map List.getLast?).drop m
theorem lackArr_len (pss : Piles) : (lackArr pss).length = pss.length := by unfold lackArr; rw [List.length_map, List.length_range]
theorem lackArr_get {pss : Piles} {m : Nat} {ns : List Int} (h : pss[m]? = some ns) : (lackArr pss)[m]? = some (if (ns.length : Int) < ((pss.flatten.count (m : Int) : Nat) : Int) then none else ns.getLast?) := by
  have hm : m < pss.length := (List.getElem?_eq_some_iff.mp h).1
  unfold lackArr
  rw [List.getElem?_map, List.getElem?_range hm]
  show some (if ((pss.getD m []).length : Int) < _ then none else (pss.getD m []).getLast?) = _
  rw [List.getD_eq_getElem?_getD, h]; rfl
theorem lackUp_len (pss : Piles) (m : Nat) (h : m ≤ pss.length) : (lackUpTo pss m).length = pss.length := by
  unfold lackUpTo
  rw [List.length_append, List.length_take, List.length_drop, List.length_map, lackArr_len]; omega
theorem lackUp_drop {pss : Piles} {m : Nat} {ns : List Int} (h : pss[m]? = some ns) : (pss.map List.getLast?).drop m = ns.getLast? :: (pss.map List.getLast?).drop (m + 1) := by
  obtain ⟨h1, h2⟩ := List.getElem?_eq_some_iff.mp h
  rw [List.drop_eq_getElem_cons (by rw [List.length_map]; exact h1), List.getElem_map, h2]
theorem lackUp_set {pss : Piles} {m : Nat} {ns : List Int} (h : pss[m]? = some ns) (q : (ns.length : Int) < ((pss.flatten.count (m : Int) : Nat) : Int)) : (lackUpTo pss m).set m none = lackUpTo pss (m + 1) := by
  have hm : m < pss.length := (List.getElem?_eq_some_iff.mp h).1
  have hl : ((lackArr pss).take m).length = m := by rw [List.length_take, lackArr_len]; omega
  unfold lackUpTo
  rw [take_snoc (lackArr_get h), lackUp_drop h, if_pos q, List.set_append_right _ _ (by omega), hl, Nat.sub_self, List.append_assoc]; rfl
theorem lackUp_keep {pss : Piles} {m : Nat} {ns : List Int} (h : pss[m]? = some ns) (q : ¬ (ns.length : Int) < ((pss.flatten.count (m : Int) : Nat) : Int)) : lackUpTo pss m = lackUpTo pss (m + 1) := by
  unfold lackUpTo
  rw [take_snoc (lackArr_get h), lackUp_drop h, if_neg q, List.append_assoc]; rfl
theorem lackUp_end (pss : Piles) : lackUpTo pss pss.length = lackArr pss := by
  unfold lackUpTo
  rw [List.take_of_length_le (by rw [lackArr_len]; exact Nat.le_refl _), List.drop_eq_nil_of_le (by rw [List.length_map]; exact Nat.le_refl _), List.append_nil]
theorem lackArr_ok {pss : Piles} (hn : NamesOk pss) : ArrOk (lackArr pss) := by
  intro x hx
  rw [lackArr_len]
  obtain ⟨i, hi⟩ := List.getElem?_of_mem hx
  have hm : i < pss.length := by
    have := (List.getElem?_eq_some_iff.mp hi).1
    rw [lackArr_len] at this; exact this
  rw [lackArr_get (List.getElem?_eq_getElem hm)] at hi
  by_cases q : (pss[i].length : Int) < ((pss.flatten.count (i : Int) : Nat) : Int)
  · rw [if_pos q] at hi; cases hi
  · rw [if_neg q] at hi
    exact hn _ (List.getElem_mem hm) x (List.mem_of_getLast? (Option.some.inj hi))
end VL
namespace VL
theorem sum_total (pss : Piles) : (pss.map List.length).sum = total pss := rfl
theorem chkPiles_names {pss : Piles} (h : chkPiles pss = none) : 0 < pss.length ∧ pss.length ≤ 40 ∧ total pss ≤ 300 ∧ NamesOk pss := by
  unfold chkPiles at h
  by_cases q1 : pss.length < 1
  · rw [if_pos q1] at h; cases h
  · rw [if_neg q1] at h
    by_cases q2 : 40 < pss.length
    · rw [if_pos q2] at h; cases h
    · rw [if_neg q2] at h
      cases q3 : pss.findSome? (chkRow pss.length 60 .pile) with
      | some e => rw [q3] at h; cases h
      | none =>
        rw [q3] at h
        by_cases q4 : 300 < (pss.map List.length).sum
        · simp only [if_pos q4] at h; cases h
        · refine ⟨by omega, by omega, by rw [← sum_total]; omega, fun ns hns x hx => ?_⟩
          have h3 := List.findSome?_eq_none_iff.mp q3 ns hns
          unfold chkRow at h3
          by_cases q5 : 60 < ns.length
          · rw [if_pos q5] at h3; cases h3
          · rw [if_neg q5] at h3
            have h4 := List.find?_eq_none.mp (Option.map_eq_none_iff.mp h3) x hx
            exact okI_iff.mp (by simpa using h4)
end VL
namespace VL
theorem chkRow_ok {n : Int} {most : Nat} {e : Er} {ns : List Int} (h : chkRow n most e ns = none) : ns.length ≤ most ∧ ∀ x ∈ ns, 0 ≤ x ∧ x < n := by
  unfold chkRow at h
  by_cases q5 : most < ns.length
  · rw [if_pos q5] at h; cases h
  · rw [if_neg q5] at h
    refine ⟨by omega, fun x hx => ?_⟩
    have h4 := List.find?_eq_none.mp (Option.map_eq_none_iff.mp h) x hx
    exact okI_iff.mp (by simpa using h4)
end VL
namespace VL
def headI (r : List Int) : Int := r.headD 0
def lackL (pss : Piles) : Nat → List Int
  | 0 => []
  | m + 1 => lackL pss m ++ List.replicate ((lackP pss).getD m 0).toNat (m : Int)
end VL
namespace VL
theorem walk_ok {a : Arr} {v : Int} (ha : ArrOk a) : ∀ (k : Nat) {W : List (Option Int)} {way : List Int} {here : Option Int}, WInv a v W way here → WInv a v (walkR a v k (W, way, here)).1 (walkR a v k (W, way, here)).2.1 (walkR a v k (W, way, here)).2.2
  | 0, W, way, here, i => i
  | k + 1, W, way, none, i => i
  | k + 1, W, way, some h, i => by
    cases q : walkedAt W h with
    | none => rw [walkR_go q]; exact walk_ok ha k (i.step ha q).1
    | some x => rw [walkR_stop q]; exact i
theorem WInv.hit {a : Arr} {v h : Int} {W : List (Option Int)} {way : List Int} (i : WInv a v W way (some h)) (q : walkedAt W h = some v) : h ∈ way := by
  obtain ⟨h0, h1⟩ := i.inn h rfl
  have g := walkedAt_get i.len h0 h1
  rw [q] at g
  rcases i.own _ _ g with z | ⟨_, z⟩
  · omega
  · rw [Int.toNat_of_nonneg h0] at z; exact z
theorem drop_ne {way : List Int} {h : Int} (hm : h ∈ way) : way.drop (way.idxOf h) ≠ [] := fun e => by
  have hlt : way.idxOf h < way.length := (List.getElem?_eq_some_iff.mp (idx_spec hm).1).1
  have := congrArg List.length e
  rw [List.length_drop] at this
  simp only [List.length_nil] at this
  omega
theorem rinv_all {a : Arr} (ha : ArrOk a) : ∀ m, m ≤ a.length → RInv a m
  | 0, _ => RInv.zero a
  | m + 1, hm => by
    have i := rinv_all ha m (by omega)
    have w := walk_ok ha (a.length + 1) (i.walk (by omega))
    generalize hF : walkR a (m : Int) (a.length + 1) ((ringsN a m).1, [], some (m : Int)) = F at w
    obtain ⟨W, way, here⟩ := F
    refine i.next w (ringStep_eq (s := ringsN a m) (v := (m : Int)) hF) ?_
    cases here with
    | none => exact .inl rfl
    | some h =>
      by_cases q : walkedAt W h = some (m : Int)
      · exact .inr ⟨_, fromLeast_ne (drop_ne (w.hit q)), if_pos q⟩
      · exact .inl (if_neg q)
theorem ringsW_ne {a : Arr} (ha : ArrOk a) : ∀ r ∈ ringsW a, r ≠ [] := (rinv_all ha a.length (Nat.le_refl _)).ne
theorem ringsW_few {a : Arr} (ha : ArrOk a) : (ringsW a).length ≤ a.length := (rinv_all ha a.length (Nat.le_refl _)).few
end VL
-- P1
set_option maxHeartbeats 1000000
namespace VL
def nx (a : Arr) (v : Int) : Option Int := (a[v.toNat]?).join
def it (a : Arr) : Nat → Int → Option Int
  | 0, v => some v
  | k + 1, v => (it a k v).bind (nx a)
theorem it_add (a : Arr) (j : Nat) : ∀ (k : Nat) (v : Int), it a (j + k) v = (it a j v).bind (it a k)
  | 0, v => by show it a j v = (it a j v).bind (fun x => some x); cases it a j v <;> rfl
  | k + 1, v => by
    show (it a (j + k) v).bind (nx a) = (it a j v).bind fun x => (it a k x).bind (nx a)
    rw [it_add a j k v, Option.bind_assoc]
def Reach (a : Arr) (x y : Int) : Prop := ∃ k, it a k x = some y
theorem Reach.refl {a : Arr} {x : Int} : Reach a x x := ⟨0, rfl⟩
theorem Reach.trans {a : Arr} {x y z : Int} : Reach a x y → Reach a y z → Reach a x z := fun ⟨i, h⟩ ⟨j, q⟩ => ⟨i + j, by rw [it_add, h]; exact q⟩
theorem Reach.one {a : Arr} {x y : Int} (h : nx a x = some y) : Reach a x y := ⟨1, h⟩
def Cyc (a : Arr) (v : Int) : Prop := ∃ k, 0 < k ∧ it a k v = some v
theorem it_mul {a : Arr} {v : Int} {k : Nat} (h : it a k v = some v) : ∀ j, it a (k * j) v = some v
  | 0 => rfl
  | j + 1 => by
    rw [Nat.mul_succ, it_add, it_mul h j]; exact h
theorem it_in {a : Arr} {S : Int → Prop} (hS : ∀ x y, S x → nx a x = some y → S y) : ∀ (k : Nat) {v y : Int}, S v → it a k v = some y → S y
  | 0, v, y, hv, h => by cases h; exact hv
  | k + 1, v, y, hv, h => by
    have h' : (it a k v).bind (nx a) = some y := h
    cases e : it a k v with
    | none => rw [e] at h'; cases h'
    | some z => rw [e] at h'; exact hS z y (it_in hS k hv e) h'
theorem Cyc.back {a : Arr} {v y : Int} {j : Nat} {S : Int → Prop} (hS : ∀ x y, S x → nx a x = some y → S y) (hc : Cyc a v) (hj : it a j v = some y) (hy : S y) : S v := by
  obtain ⟨k, k0, hk⟩ := hc
  have h1 := it_mul hk j
  have h2 : k * j = j + (k * j - j) := by
    have : j ≤ k * j := Nat.le_mul_of_pos_left j k0
    omega
  rw [h2, it_add, hj] at h1
  exact it_in hS _ hy h1
theorem Cyc.some {a : Arr} {v : Int} (hc : Cyc a v) (j : Nat) : it a j v ≠ none := fun h => by
  obtain ⟨k, k0, hk⟩ := hc
  have h1 := it_mul hk j
  have h2 : k * j = j + (k * j - j) := by
    have : j ≤ k * j := Nat.le_mul_of_pos_left j k0
    omega
  rw [h2, it_add, h] at h1
  cases h1
theorem Cyc.reach {a : Arr} {v y : Int} (hc : Cyc a v) (h : Reach a v y) : Reach a y v := by
  obtain ⟨j, hj⟩ := h
  exact Cyc.back (S := fun z => Reach a y z) (fun x z hx hz => hx.trans (.one hz)) hc hj .refl
theorem Cyc.of {a : Arr} {v y : Int} (hc : Cyc a v) (h : Reach a v y) : Cyc a y := by
  obtain ⟨i, hi⟩ := hc.reach h
  obtain ⟨j, hj⟩ := h
  obtain ⟨k, k0, hk⟩ := hc
  exact ⟨i + (k + j), by omega, by rw [it_add, hi]; show it a (k + j) v = _; rw [it_add, hk]; exact hj⟩
def IsL (a : Arr) (v : Int) : Prop := Cyc a v ∧ ∀ x, Reach a v x → v ≤ x
theorem IsL.uniq {a : Arr} {m m' x : Int} (h : IsL a m) (h' : IsL a m') (r : Reach a m x) (r' : Reach a m' x) : m = m' := by
  have h1 := h.2 m' (r.trans (h'.1.reach r'))
  have h2 := h'.2 m (r'.trans (h.1.reach r))
  omega
theorem reach_least {a : Arr} {x : Int} (h0 : ∀ y, Reach a x y → 0 ≤ y) : ∀ (b : Nat) (y : Int), Reach a x y → y.toNat ≤ b → ∃ m, Reach a x m ∧ ∀ z, Reach a x z → m ≤ z
  | 0, y, hy, hb => ⟨y, hy, fun z hz => by have := h0 z hz; omega⟩
  | b + 1, y, hy, hb => by
    by_cases q : ∃ z, Reach a x z ∧ z < y
    · obtain ⟨z, hz, hl⟩ := q
      exact reach_least h0 b z hz (by have := h0 z hz; omega)
    · exact ⟨y, hy, fun z hz => by
        by_cases l : y ≤ z
        · exact l
        · exact absurd ⟨z, hz, by omega⟩ q⟩
theorem pigeon {n : Nat} {f : Nat → Int} (h : ∀ k, k ≤ n → 0 ≤ f k ∧ f k < n) : ∃ i j, i < j ∧ j ≤ n ∧ f i = f j := by
  refine Classical.byContradiction fun q => ?_
  have nd : ((List.range (n + 1)).map f).Nodup := by
    unfold List.Nodup
    rw [List.pairwise_map]
    refine List.Pairwise.imp_of_mem ?_ List.pairwise_lt_range
    intro i j _ hj l e
    exact q ⟨i, j, l, by have := List.mem_range.mp hj; omega, e⟩
  have hl := List.Nodup.length_le_of_subset nd (l₂ := (List.range n).map fun (i : Nat) => (i : Int)) (fun x hx => by
    obtain ⟨k, hk, rfl⟩ := List.mem_map.mp hx
    obtain ⟨h1, h2⟩ := h k (by have := List.mem_range.mp hk; omega)
    exact List.mem_map.mpr ⟨(f k).toNat, List.mem_range.mpr (by omega), by omega⟩)
  simp at hl
  omega
theorem ring_in {a : Arr} {n : Nat} {U : Int → Prop} (hU : ∀ v, U v → ∃ w, nx a v = some w ∧ U w) (hr : ∀ v, U v → 0 ≤ v ∧ v < n) {u : Int} (hu : U u) : ∃ m k, U m ∧ IsL a m ∧ 0 < k ∧ k ≤ n ∧ it a k m = some m := by
  have hs : ∀ x y, U x → nx a x = some y → U y := fun x y hx hy => by
    obtain ⟨w, h1, h2⟩ := hU x hx
    rw [hy] at h1; cases h1; exact h2
  have hk : ∀ k, ∃ w, it a k u = some w ∧ U w := fun k => by
    induction k with
    | zero => exact ⟨u, rfl, hu⟩
    | succ k ih =>
      obtain ⟨w, h1, h2⟩ := ih
      obtain ⟨z, h3, h4⟩ := hU w h2
      exact ⟨z, by show (it a k u).bind (nx a) = _; rw [h1]; exact h3, h4⟩
  let f : Nat → Int := fun k => (it a k u).getD 0
  have hf : ∀ k, it a k u = some (f k) ∧ U (f k) := fun k => by
    obtain ⟨w, h1, h2⟩ := hk k
    have : f k = w := by show (it a k u).getD 0 = w; rw [h1]; rfl
    rw [this]; exact ⟨h1, h2⟩
  obtain ⟨i, j, hij, hj, e⟩ := pigeon (n := n) (f := f) fun k _ => hr _ (hf k).2
  have hc : it a (j - i) (f i) = some (f i) := by
    have h1 := (hf j).1
    rw [show j = i + (j - i) by omega, it_add, (hf i).1] at h1
    rw [show i + (j - i) = j by omega, ← e] at h1
    exact h1
  have cyc : Cyc a (f i) := ⟨j - i, by omega, hc⟩
  have hin : ∀ y, Reach a (f i) y → U y := fun y ⟨k, q⟩ => it_in hs k (hf i).2 q
  obtain ⟨m, h1, h2⟩ := reach_least (a := a) (x := f i) (fun y hy => (hr y (hin y hy)).1) _ _ Reach.refl (Nat.le_refl _)
  have hm : it a (j - i) m = some m := by
    obtain ⟨k, q⟩ := h1
    have h3 : it a (j - i + k) (f i) = some m := by rw [it_add, hc]; exact q
    rw [Nat.add_comm, it_add, q] at h3
    exact h3
  exact ⟨m, j - i, hin m h1, ⟨cyc.of h1, fun z hz => h2 z (h1.trans hz)⟩, by omega, by omega, hm⟩
def lawWalk (a : Arr) (v : Int) : Nat → List Int × Option Int → List Int × Option Int
  | 0, s => s
  | _ + 1, (p, none) => (p, none)
  | k + 1, (p, some x) => if x = v then (p, some x) else lawWalk a v k (p ++ [x], nx a x)
def lawEnd (a : Arr) (v : Int) : List Int × Option Int := lawWalk a v a.length ([v], nx a v)
def isL (a : Arr) (v : Int) : Bool := decide ((lawEnd a v).2 = some v) && decide (minI (lawEnd a v).1 = v)
def lawRings (a : Arr) : Nat → List (List Int)
  | 0 => []
  | m + 1 => lawRings a m ++ (if isL a m then [(lawEnd a m).1] else [])
structure LW (a : Arr) (v : Int) (j : Nat) (p : List Int) (at_ : Option Int) : Prop where
  hd : p.head? = some v
  re : ∀ x ∈ p, Reach a v x
  nxt : ∀ x ∈ p, (∃ y ∈ p, nx a x = some y) ∨ nx a x = at_
  at_ : at_ = VL.it a (j + 1) v
  no : ∀ i, 0 < i → i ≤ j → VL.it a i v ≠ some v
  len : p.length = j + 1
theorem LW.zero (a : Arr) (v : Int) : LW a v 0 [v] (nx a v) where
  hd := rfl
  re := fun x h => by rw [List.mem_singleton.mp h]; exact .refl
  nxt := fun x h => by rw [List.mem_singleton.mp h]; exact .inr rfl
  at_ := rfl
  no := fun i h0 h1 => by omega
  len := rfl
theorem LW.step {a : Arr} {v x : Int} {j : Nat} {p : List Int} (h : LW a v j p (some x)) (ne : x ≠ v) : LW a v (j + 1) (p ++ [x]) (nx a x) where
  hd := by
    cases p with
    | nil => cases h.hd
    | cons z r => exact h.hd
  re := fun z hz => by
    rcases List.mem_append.mp hz with q | q
    · exact h.re z q
    · rw [List.mem_singleton.mp q]; exact ⟨_, h.at_.symm⟩
  nxt := fun z hz => by
    rcases List.mem_append.mp hz with q | q
    · rcases h.nxt z q with ⟨y, h1, h2⟩ | h1
      · exact .inl ⟨y, List.mem_append_left _ h1, h2⟩
      · exact .inl ⟨x, List.mem_append_right _ List.mem_cons_self, h1⟩
    · rw [List.mem_singleton.mp q]; exact .inr rfl
  at_ := by show nx a x = (VL.it a (j + 1) v).bind (nx a); rw [← h.at_]; rfl
  no := fun i h0 h1 => by
    by_cases q : i = j + 1
    · subst q; rw [← h.at_]; intro e; injection e with e; exact ne e
    · exact h.no i h0 (by omega)
  len := by rw [List.length_append, h.len]; rfl
theorem lawWalk_ok {a : Arr} {v : Int} : ∀ (k j : Nat) {p : List Int} {at_ : Option Int}, LW a v j p at_ → ∃ j', LW a v j' (lawWalk a v k (p, at_)).1 (lawWalk a v k (p, at_)).2 ∧ j' ≤ j + k ∧ ((lawWalk a v k (p, at_)).2 = none ∨ (lawWalk a v k (p, at_)).2 = some v ∨ j' = j + k)
  | 0, j, p, at_, h => ⟨j, h, Nat.le_refl _, .inr (.inr rfl)⟩
  | k + 1, j, p, none, h => ⟨j, h, by omega, .inl rfl⟩
  | k + 1, j, p, some x, h => by
    by_cases q : x = v
    · have e : lawWalk a v (k + 1) (p, some x) = (p, some x) := if_pos q
      rw [e]; exact ⟨j, h, by omega, .inr (.inl (congrArg some q))⟩
    · have e : lawWalk a v (k + 1) (p, some x) = lawWalk a v k (p ++ [x], nx a x) := if_neg q
      rw [e]
      obtain ⟨j', h1, h2, h3⟩ := lawWalk_ok k (j + 1) (h.step q)
      refine ⟨j', h1, by omega, ?_⟩
      rcases h3 with h3 | h3 | h3
      · exact .inl h3
      · exact .inr (.inl h3)
      · exact .inr (.inr (by omega))
theorem minI_eq {p : List Int} {v : Int} (h : v ∈ p) (l : ∀ x ∈ p, v ≤ x) : minI p = v := by
  obtain ⟨h1, h2⟩ := minI_spec (r := p) (fun e => by rw [e] at h; cases h)
  have := h2 v h
  have := l _ h1
  omega
theorem isL_of {a : Arr} {v : Int} (h : isL a v = true) : IsL a v := by
  obtain ⟨h1, h2⟩ := Bool.and_eq_true_iff.mp h
  have h1 := of_decide_eq_true h1
  have h2 := of_decide_eq_true h2
  obtain ⟨j, w, _, _⟩ := lawWalk_ok (a := a) (v := v) a.length 0 (LW.zero a v)
  change LW a v j (lawEnd a v).1 (lawEnd a v).2 at w
  rw [h1] at w
  have hv : v ∈ (lawEnd a v).1 := List.mem_of_mem_head? (by rw [w.hd]; rfl)
  refine ⟨⟨j + 1, by omega, w.at_.symm⟩, fun x ⟨k, hk⟩ => ?_⟩
  have hx : x ∈ (lawEnd a v).1 := it_in (S := fun z => z ∈ (lawEnd a v).1) (fun z y hz hy => by
    rcases w.nxt z hz with ⟨y', q1, q2⟩ | q
    · rw [hy] at q2; cases q2; exact q1
    · rw [hy] at q; cases q; exact hv) k hv hk
  have := (minI_spec (r := (lawEnd a v).1) (fun e => by rw [e] at hv; cases hv)).2 x hx
  omega
theorem isL_to {a : Arr} {v : Int} {k : Nat} (h : IsL a v) (k0 : 0 < k) (kn : k ≤ a.length) (hk : it a k v = some v) : isL a v = true := by
  obtain ⟨j, w, hj, hs⟩ := lawWalk_ok (a := a) (v := v) a.length 0 (LW.zero a v)
  change LW a v j (lawEnd a v).1 (lawEnd a v).2 at w
  change (lawEnd a v).2 = none ∨ (lawEnd a v).2 = some v ∨ j = 0 + a.length at hs
  have hjk : j < k := by
    by_cases q : j < k
    · exact q
    · exact absurd hk (w.no k k0 (by omega))
  have hend : (lawEnd a v).2 = some v := by
    rcases hs with hs | hs | hs
    · exact absurd (w.at_.symm.trans hs) (h.1.some _)
    · exact hs
    · omega
  have hv : v ∈ (lawEnd a v).1 := List.mem_of_mem_head? (by rw [w.hd]; rfl)
  have hm : minI (lawEnd a v).1 = v := minI_eq hv fun x hx => h.2 x (w.re x hx)
  unfold isL
  rw [hend, hm]
  simp
theorem lawEnd_head (a : Arr) (v : Int) : headI (lawEnd a v).1 = v := by
  obtain ⟨j, w, _, _⟩ := lawWalk_ok (a := a) (v := v) a.length 0 (LW.zero a v)
  have := w.hd
  change (lawEnd a v).1.head? = some v at this
  unfold headI
  rw [List.headD_eq_head?_getD, this]; rfl
theorem lawEnd_len (a : Arr) (v : Int) : (lawEnd a v).1 ≠ [] ∧ (lawEnd a v).1.length ≤ a.length + 1 := by
  obtain ⟨j, w, hj, _⟩ := lawWalk_ok (a := a) (v := v) a.length 0 (LW.zero a v)
  have := w.len
  change (lawEnd a v).1.length = j + 1 at this
  refine ⟨fun e => by rw [e] at this; simp at this, by omega⟩
def lawHeads (a : Arr) (m : Nat) : List Int := ((List.range m).map fun (i : Nat) => (i : Int)).filter (isL a)
theorem lawRings_heads (a : Arr) : ∀ m, (lawRings a m).map headI = lawHeads a m
  | 0 => rfl
  | m + 1 => by
    show (lawRings a m ++ _).map headI = _
    unfold lawHeads
    rw [List.range_succ, List.map_append, List.map_append, List.filter_append, lawRings_heads a m]
    show _ = lawHeads a m ++ _
    congr 1
    cases q : isL a m with
    | true =>
      rw [if_pos rfl]
      show [headI (lawEnd a m).1] = List.filter (isL a) [(m : Int)]
      rw [lawEnd_head]
      simp [q]
    | false =>
      simp [q]
theorem lawHeads_nodup (a : Arr) (m : Nat) : (lawHeads a m).Nodup := by
  unfold lawHeads
  refine List.Pairwise.filter _ ?_
  rw [List.pairwise_map]
  exact List.Pairwise.imp (fun {i j} l e => by have : (i : Int) = j := e; omega) List.pairwise_lt_range
theorem lawHeads_mem {a : Arr} {m : Nat} {x : Int} : x ∈ lawHeads a m ↔ (0 ≤ x ∧ x < m) ∧ isL a x = true := by
  unfold lawHeads
  rw [List.mem_filter, List.mem_map]
  constructor
  · rintro ⟨⟨i, hi, rfl⟩, h⟩
    have := List.mem_range.mp hi
    exact ⟨by omega, h⟩
  · rintro ⟨h, q⟩
    exact ⟨⟨x.toNat, List.mem_range.mpr (by omega), by omega⟩, q⟩
theorem nx_in {a : Arr} (ha : ArrOk a) {v w : Int} (h : nx a v = some w) : 0 ≤ w ∧ w < a.length := by
  refine ha w ?_
  unfold nx at h
  cases e : a[v.toNat]? with
  | none => rw [e] at h; cases h
  | some o => rw [e] at h; rw [show o = some w from h] at e; exact List.mem_of_getElem? e
theorem isL_iff {a : Arr} (ha : ArrOk a) {v : Int} (h0 : 0 ≤ v ∧ v < a.length) : isL a v = true ↔ IsL a v := by
  refine ⟨isL_of, fun h => ?_⟩
  have hin : ∀ y, Reach a v y → 0 ≤ y ∧ y < a.length := fun y ⟨k, q⟩ => it_in (S := fun y => 0 ≤ y ∧ y < a.length) (fun x y _ hy => nx_in ha hy) k h0 q
  obtain ⟨m, k, h1, h2, h3, h4, h5⟩ := ring_in (a := a) (n := a.length) (U := Reach a v) (fun x hx => by
    have hc := h.1.of hx
    cases e : nx a x with
    | none => exact absurd e (hc.some 1)
    | some w => exact ⟨w, rfl, hx.trans (.one e)⟩) hin (Reach.refl)
  have : v = m := h.uniq h2 h1 .refl
  subst this
  exact isL_to h h3 h4 h5
structure WW (a : Arr) (W0 : List (Option Int)) (v : Int) (W : List (Option Int)) (way : List Int) (here : Option Int) : Prop where
  len : W.length = a.length
  inn : ∀ h, here = some h → 0 ≤ h ∧ h < a.length
  win : ∀ x ∈ way, 0 ≤ x ∧ x < a.length
  own : ∀ x ∈ way, walkedAt W x = some v
  dis : ∀ x ∈ way, walkedAt W0 x = none
  ext : ∀ x, 0 ≤ x → x ∉ way → walkedAt W x = walkedAt W0 x
  chain : ∀ (i : Nat) (x y : Int), way[i]? = some x → way[i + 1]? = some y → nx a x = some y
  last : ∀ x, way.getLast? = some x → nx a x = here
  emp : way = [] → here = some v
  cnt : way.length + W.count none = W0.count none
theorem walked_set {W : List (Option Int)} {h v x : Int} (h0 : 0 ≤ h) (hl : h < W.length) (x0 : 0 ≤ x) : walkedAt (W.set h.toNat (some v)) x = if x = h then some v else walkedAt W x := by
  unfold walkedAt
  by_cases q : x = h
  · subst q
    rw [if_pos rfl, List.getElem?_set_self (by omega)]; rfl
  · rw [if_neg q, List.getElem?_set_ne (by omega)]
theorem walked_get {W : List (Option Int)} {h : Int} (h0 : 0 ≤ h) (hl : h < W.length) : W[h.toNat]? = some (walkedAt W h) := by
  unfold walkedAt
  rw [List.getElem?_eq_getElem (by omega)]; rfl
theorem count_set {W : List (Option Int)} {v : Int} : ∀ {i : Nat}, W[i]? = some none → (W.set i (some v)).count none + 1 = W.count none := by
  induction W with
  | nil => intro i h; simp at h
  | cons w W ih =>
    intro i h
    cases i with
    | zero => simp at h; subst h; simp
    | succ i =>
      simp at h
      have := ih h
      rw [List.set_cons_succ, List.count_cons, List.count_cons]
      omega
theorem WW.step {a : Arr} {W0 W : List (Option Int)} {v h : Int} {way : List Int} (ha : ArrOk a) (i : WW a W0 v W way (some h)) (q : walkedAt W h = none) :
    WW a W0 v (W.set h.toNat (some v)) (way ++ [h]) (nx a h) := by
  obtain ⟨h0, h1⟩ := i.inn h rfl
  have hl : h < W.length := by rw [i.len]; exact h1
  have hnw : h ∉ way := fun m => by rw [i.own h m] at q; cases q
  exact {
    len := by rw [List.length_set]; exact i.len
    inn := fun x e => nx_in ha e
    win := fun x m => by
      rcases List.mem_append.mp m with m | m
      · exact i.win x m
      · rw [List.mem_singleton.mp m]; exact ⟨h0, h1⟩
    own := fun x m => by
      rcases List.mem_append.mp m with m | m
      · rw [walked_set h0 hl (i.win x m).1]
        by_cases e : x = h
        · rw [if_pos e]
        · rw [if_neg e]; exact i.own x m
      · rw [List.mem_singleton.mp m, walked_set h0 hl h0, if_pos rfl]
    dis := fun x m => by
      rcases List.mem_append.mp m with m | m
      · exact i.dis x m
      · rw [List.mem_singleton.mp m, ← i.ext h h0 hnw]; exact q
    ext := fun x x0 m => by
      have m1 : x ∉ way := fun z => m (List.mem_append_left _ z)
      have m2 : x ≠ h := fun z => m (List.mem_append_right _ (by rw [z]; exact List.mem_cons_self))
      rw [walked_set h0 hl x0, if_neg m2]
      exact i.ext x x0 m1
    chain := fun k x y e1 e2 => by
      have lk : k + 1 < (way ++ [h]).length := (List.getElem?_eq_some_iff.mp e2).1
      rw [List.length_append, List.length_singleton] at lk
      rw [List.getElem?_append_left (by omega)] at e1
      by_cases z : k + 1 < way.length
      · rw [List.getElem?_append_left z] at e2
        exact i.chain k x y e1 e2
      · have : k + 1 = way.length := by omega
        rw [this] at e2
        simp at e2
        subst e2
        refine i.last x ?_
        rw [List.getLast?_eq_getElem?, ← this]
        exact e1
    last := fun x e => by
      rw [List.getLast?_append] at e
      simp at e
      subst e
      rfl
    emp := fun e => by simp at e
    cnt := by
      have := count_set (v := v) (show W[h.toNat]? = some none by rw [walked_get h0 hl, q])
      have := i.cnt
      rw [List.length_append, List.length_singleton]
      omega }
theorem walkR_end {a : Arr} {W0 : List (Option Int)} {v : Int} (ha : ArrOk a) : ∀ (k : Nat) {W : List (Option Int)} {way : List Int} {here : Option Int}, WW a W0 v W way here → W.count none < k →
    WW a W0 v (walkR a v k (W, way, here)).1 (walkR a v k (W, way, here)).2.1 (walkR a v k (W, way, here)).2.2 ∧ ∀ h, (walkR a v k (W, way, here)).2.2 = some h → walkedAt (walkR a v k (W, way, here)).1 h ≠ none
  | 0, _, _, _, _, h => absurd h (Nat.not_lt_zero _)
  | k + 1, W, way, none, i, _ => ⟨i, fun h e => by cases e⟩
  | k + 1, W, way, some h, i, hc => by
    cases q : walkedAt W h with
    | none =>
      rw [walkR_go q]
      obtain ⟨h0, h1⟩ := i.inn h rfl
      have := count_set (v := v) (show W[h.toNat]? = some none by rw [walked_get h0 (by rw [i.len]; exact h1), q])
      exact walkR_end ha k (i.step ha q) (by omega)
    | some x =>
      rw [walkR_stop q]
      exact ⟨i, fun z e => by cases e; rw [q]; simp⟩
theorem WW.re {a : Arr} {W0 W : List (Option Int)} {v : Int} {way : List Int} {here : Option Int} (i : WW a W0 v W way here) : ∀ (d k : Nat) (x : Int), way[k]? = some x → way.length = k + d + 1 → it a (d + 1) x = here
  | 0, k, x, hx, hl => by
    show nx a x = here
    refine i.last x ?_
    rw [List.getLast?_eq_getElem?, show way.length - 1 = k by omega]
    exact hx
  | d + 1, k, x, hx, hl => by
    obtain ⟨y, hy⟩ := get_lt (l := way) (m := k + 1) (by omega)
    have h1 := i.chain k x y hx hy
    have h2 := i.re d (k + 1) y hy (by omega)
    rw [show d + 1 + 1 = 1 + (d + 1) by omega, it_add, show it a 1 x = some y from h1]
    exact h2
theorem WW.to {a : Arr} {W0 W : List (Option Int)} {v : Int} {way : List Int} {here : Option Int} (i : WW a W0 v W way here) {x : Int} (hx : x ∈ way) : ∃ k, it a (k + 1) x = here := by
  obtain ⟨k, hk, e⟩ := List.mem_iff_getElem.mp hx
  exact ⟨way.length - k - 1, i.re (way.length - k - 1) k x (by rw [List.getElem?_eq_getElem hk, e]) (by omega)⟩
structure RR (a : Arr) (m : Nat) (W : List (Option Int)) (fs : List (List Int)) : Prop where
  len : W.length = a.length
  low : ∀ x : Int, 0 ≤ x → x < m → walkedAt W x ≠ none
  old : ∀ (x u : Int), walkedAt W x = some u → u < m
  clo : ∀ x y, 0 ≤ x → walkedAt W x ≠ none → nx a x = some y → walkedAt W y ≠ none
  nd : (fs.map headI).Nodup
  hd : ∀ x, x ∈ fs.map headI ↔ IsL a x ∧ 0 ≤ x ∧ walkedAt W x ≠ none
theorem headI_least {r : List Int} (h : r ≠ []) : headI (fromLeast r) = minI r := by
  have hm := (minI_spec h).1
  have hi : r.idxOf (minI r) < r.length := List.idxOf_lt_length_of_mem hm
  unfold headI fromLeast
  rw [List.headD_eq_head?_getD, List.head?_append, List.head?_drop, List.getElem?_eq_getElem hi, List.getElem_idxOf]
  rfl
theorem RR.step {a : Arr} {m : Nat} {W0 : List (Option Int)} {fs : List (List Int)} (ha : ArrOk a) (hm : m < a.length) (i : RR a m W0 fs) : RR a (m + 1) (ringStep a (W0, fs) m).1 (ringStep a (W0, fs) m).2 := by
  have hc : W0.count none < a.length + 1 := by have : W0.count none ≤ W0.length := List.count_le_length; have := i.len; omega
  obtain ⟨w, stop⟩ := walkR_end ha (a.length + 1) (W0 := W0) (v := m) (W := W0) (way := []) (here := some (m : Int)) {
    len := i.len
    inn := fun h e => by cases e; omega
    win := fun x h => nomatch h
    own := fun x h => nomatch h
    dis := fun x h => nomatch h
    ext := fun x _ _ => rfl
    chain := fun k x y e => by simp at e
    last := fun x e => by simp at e
    emp := fun _ => rfl
    cnt := by simp } hc
  unfold ringStep
  simp only []
  generalize hw : walkR a m (a.length + 1) (W0, [], some (m : Int)) = R at w stop ⊢
  obtain ⟨W, way, here⟩ := R
  simp only [] at w stop ⊢
  have mono : ∀ x, 0 ≤ x → walkedAt W0 x ≠ none → walkedAt W x ≠ none := fun x x0 h => by
    by_cases q : x ∈ way
    · rw [w.own x q]; simp
    · rw [w.ext x x0 q]; exact h
  have newp : ∀ x, 0 ≤ x → walkedAt W x ≠ none → walkedAt W0 x ≠ none ∨ x ∈ way := fun x x0 h => by
    by_cases q : x ∈ way
    · exact .inr q
    · rw [w.ext x x0 q] at h; exact .inl h
  have notW0 : ∀ x u, walkedAt W0 x = some u → u ≠ m := fun x u h e => by have := i.old x u h; omega
  have clo : ∀ x y, 0 ≤ x → walkedAt W x ≠ none → nx a x = some y → walkedAt W y ≠ none := fun x y x0 h e => by
    have y0 := nx_in ha e
    rcases newp x x0 h with q | q
    · exact mono y y0.1 (i.clo x y x0 q e)
    · obtain ⟨k, hk, ex⟩ := List.mem_iff_getElem.mp q
      by_cases z : k + 1 < way.length
      · have := w.chain k x way[k + 1] (by rw [List.getElem?_eq_getElem hk, ex]) (List.getElem?_eq_getElem z)
        rw [e] at this; cases this
        rw [w.own _ (List.getElem_mem z)]; simp
      · have := w.last x (by rw [List.getLast?_eq_getElem?, show way.length - 1 = k by omega, List.getElem?_eq_getElem hk, ex])
        rw [e] at this
        exact stop y this.symm
  have low : ∀ x, 0 ≤ x → x < ((m + 1 : Nat) : Int) → walkedAt W x ≠ none := fun x x0 x1 => by
    by_cases q : x < m
    · exact mono x x0 (i.low x x0 q)
    · have : x = m := by omega
      subst this
      by_cases e : way = []
      · exact stop _ (w.emp e)
      · -- the first of the way is m
        by_cases q0 : walkedAt W0 (m : Int) = none
        · rw [walkR_go q0] at hw
          refine Classical.byContradiction fun hn => ?_
          have hn' : walkedAt W (m : Int) = none := by
            cases z : walkedAt W (m : Int) with
            | none => rfl
            | some u => exact absurd (by rw [z]; simp) hn
          have key : ∀ (k : Nat) (W1 : List (Option Int)) (way1 : List Int) (h1 : Option Int), (m : Int) ∈ way1 → (m : Int) ∈ (walkR a m k (W1, way1, h1)).2.1 := fun k => by
            induction k with
            | zero => intro W1 way1 h1 hmem; exact hmem
            | succ k ih =>
              intro W1 way1 h1 hmem
              cases h1 with
              | none => rw [walkR_none]; exact hmem
              | some h =>
                cases z : walkedAt W1 h with
                | none => rw [walkR_go z]; exact ih _ _ _ (List.mem_append_left _ hmem)
                | some u => rw [walkR_stop z]; exact hmem
          have := key a.length (W0.set (m : Int).toNat (some (m : Int))) ([] ++ [(m : Int)]) ((a[(m : Int).toNat]?).join) (by simp)
          rw [hw] at this
          rw [w.own _ this] at hn'
          cases hn'
        · exact mono _ (by omega) q0
  have old : ∀ x u, walkedAt W x = some u → u < ((m + 1 : Nat) : Int) := fun x u h => by
    by_cases x0 : 0 ≤ x
    · by_cases q : x ∈ way
      · rw [w.own x q] at h; cases h; omega
      · rw [w.ext x x0 q] at h; have := i.old x u h; omega
    · -- a negative place reads the first
      have e : walkedAt W x = walkedAt W 0 := by unfold walkedAt; rw [show x.toNat = (0 : Int).toNat by omega]
      rw [e] at h
      by_cases q : (0 : Int) ∈ way
      · rw [w.own 0 q] at h; cases h; omega
      · rw [w.ext 0 (by omega) q] at h; have := i.old 0 u h; omega
  cases here with
  | none =>
    refine ⟨w.len, low, old, clo, i.nd, fun x => ?_⟩
    show x ∈ fs.map headI ↔ _
    rw [i.hd]
    refine ⟨fun ⟨h1, h2, h3⟩ => ⟨h1, h2, mono x h2 h3⟩, fun ⟨h1, h2, h3⟩ => ⟨h1, h2, ?_⟩⟩
    rcases newp x h2 h3 with q | q
    · exact q
    · obtain ⟨k, hk⟩ := w.to q
      exact absurd hk (h1.1.some _)
  | some h =>
    obtain ⟨h0, h1⟩ := w.inn h rfl
    have hs := stop h rfl
    show RR a (m + 1) W (if walkedAt W h = some (m : Int) then fs ++ [fromLeast (way.drop (way.idxOf h))] else fs)
    by_cases q : walkedAt W h = some (m : Int)
    · rw [if_pos q]
      have hway : h ∈ way := by
        refine Classical.byContradiction fun z => ?_
        rw [w.ext h h0 z] at q
        exact notW0 h _ q rfl
      have hix : way.idxOf h < way.length := List.idxOf_lt_length_of_mem hway
      generalize hr : way.drop (way.idxOf h) = r
      have r0 : r[0]? = some h := by rw [← hr, List.getElem?_drop, Nat.add_zero, List.getElem?_eq_getElem hix, List.getElem_idxOf]
      have rne : r ≠ [] := fun e => by rw [e] at r0; simp at r0
      have rsub : ∀ x ∈ r, x ∈ way := fun x hx => by rw [← hr] at hx; exact List.mem_of_mem_drop hx
      have rclo : ∀ x y, x ∈ r → nx a x = some y → y ∈ r := fun x y hx e => by
        obtain ⟨k, hk, ex⟩ := List.mem_iff_getElem.mp hx
        have gk : way[way.idxOf h + k]? = some x := by rw [← List.getElem?_drop, hr, List.getElem?_eq_getElem hk, ex]
        by_cases z : k + 1 < r.length
        · have g2 : way[way.idxOf h + k + 1]? = some r[k + 1] := by rw [Nat.add_assoc, ← List.getElem?_drop, hr, List.getElem?_eq_getElem z]
          have := w.chain _ _ _ gk g2
          rw [e] at this; cases this
          exact List.getElem_mem z
        · have hlr : r.length = way.length - way.idxOf h := by rw [← hr, List.length_drop]
          have := w.last x (by rw [List.getLast?_eq_getElem?, show way.length - 1 = way.idxOf h + k by omega]; exact gk)
          rw [e] at this; cases this
          exact List.mem_of_getElem? r0
      have hmem : h ∈ r := List.mem_of_getElem? r0
      have toh : ∀ x ∈ way, Reach a x h := fun x hx => by
        obtain ⟨k, hk⟩ := w.to hx
        exact ⟨_, hk⟩
      have hcyc : Cyc a h := by
        obtain ⟨k, hk⟩ := w.to hway
        exact ⟨k + 1, by omega, hk⟩
      have frh : ∀ y, Reach a h y → y ∈ r := fun y ⟨k, hk⟩ => it_in (S := fun z => z ∈ r) (fun x y hx e => rclo x y hx e) k hmem hk
      have rre : ∀ x ∈ r, Reach a h x := fun x hx => by
        obtain ⟨k, hk, ex⟩ := List.mem_iff_getElem.mp hx
        have : ∀ (k : Nat) (x : Int), r[k]? = some x → Reach a h x := fun k => by
          induction k with
          | zero => intro x e; rw [r0] at e; cases e; exact .refl
          | succ k ih =>
            intro x e
            have lk : k + 1 < r.length := (List.getElem?_eq_some_iff.mp e).1
            have e1 : r[k]? = some r[k] := List.getElem?_eq_getElem (by omega)
            have g1 : way[way.idxOf h + k]? = some r[k] := by rw [← List.getElem?_drop, hr, e1]
            have g2 : way[way.idxOf h + k + 1]? = some x := by rw [Nat.add_assoc, ← List.getElem?_drop, hr, e]
            exact (ih _ e1).trans (.one (w.chain _ _ _ g1 g2))
        exact this k x (by rw [List.getElem?_eq_getElem hk, ex])
      obtain ⟨mm, ml⟩ := minI_spec rne
      have mL : IsL a (minI r) := ⟨hcyc.of (rre _ mm), fun x hx => ml x (frh x ((rre _ mm).trans hx))⟩
      have m0 := w.win _ (rsub _ mm)
      have hh := headI_least rne
      refine ⟨w.len, low, old, clo, ?_, fun x => ?_⟩
      · rw [List.map_append, List.map_cons, List.map_nil, hh]
        refine List.nodup_append.mpr ⟨i.nd, by simp, fun x hx y hy e => ?_⟩
        rw [List.mem_singleton.mp hy] at e
        rw [e] at hx
        exact ((i.hd _).mp hx).2.2 (w.dis _ (rsub _ mm))
      · rw [List.map_append, List.mem_append, List.map_cons, List.map_nil, hh, List.mem_singleton, i.hd]
        refine ⟨fun z => ?_, fun ⟨h1, h2, h3⟩ => ?_⟩
        · rcases z with ⟨h1, h2, h3⟩ | z
          · exact ⟨h1, h2, mono x h2 h3⟩
          · rw [z]; exact ⟨mL, m0.1, by rw [w.own _ (rsub _ mm)]; simp⟩
        · rcases newp x h2 h3 with z | z
          · exact .inl ⟨h1, h2, z⟩
          · right
            obtain ⟨k, hk⟩ := toh x z
            have xr : x ∈ r := Cyc.back (S := fun z => z ∈ r) (fun x y hx e => rclo x y hx e) h1.1 hk hmem
            have l1 := ml x xr
            have l2 := h1.2 (minI r) (Reach.trans ⟨k, hk⟩ (rre _ mm))
            omega
    · rw [if_neg q]
      have hW0 : walkedAt W0 h ≠ none := by
        rcases newp h h0 hs with z | z
        · exact z
        · exact absurd (w.own h z) q
      refine ⟨w.len, low, old, clo, i.nd, fun x => ?_⟩
      rw [i.hd]
      refine ⟨fun ⟨h1, h2, h3⟩ => ⟨h1, h2, mono x h2 h3⟩, fun ⟨h1, h2, h3⟩ => ⟨h1, h2, ?_⟩⟩
      rcases newp x h2 h3 with z | z
      · exact z
      · obtain ⟨k, hk⟩ := w.to z
        have := Cyc.back (S := fun z => 0 ≤ z ∧ walkedAt W0 z ≠ none) (fun x y hx e => ⟨(nx_in ha e).1, i.clo x y hx.1 hx.2 e⟩) h1.1 hk ⟨h0, hW0⟩
        exact this.2
theorem ringsN_rr {a : Arr} (ha : ArrOk a) : ∀ m, m ≤ a.length → RR a m (ringsN a m).1 (ringsN a m).2
  | 0, _ => {
    len := List.length_replicate
    low := fun x x0 x1 => by omega
    old := fun x u h => by
      exfalso
      unfold walkedAt at h
      change (((List.replicate a.length (none : Option Int))[x.toNat]?).join) = some u at h
      cases e : (List.replicate a.length (none : Option Int))[x.toNat]? with
      | none => rw [e] at h; cases h
      | some o => rw [e] at h; have := (List.mem_replicate.mp (List.mem_of_getElem? e)).2; subst this; cases h
    clo := fun x y x0 h => by
      exfalso
      apply h
      unfold walkedAt
      show (((List.replicate a.length (none : Option Int))[x.toNat]?).join) = none
      cases e : (List.replicate a.length (none : Option Int))[x.toNat]? with
      | none => rfl
      | some o => have := (List.mem_replicate.mp (List.mem_of_getElem? e)).2; subst this; rfl
    nd := by show ([] : List Int).Nodup; simp
    hd := fun x => by
      refine ⟨fun h => (nomatch (show x ∈ ([] : List Int) from h)), fun h => ?_⟩
      replace h := h.2.2
      exfalso
      apply h
      unfold walkedAt
      show (((List.replicate a.length (none : Option Int))[x.toNat]?).join) = none
      cases e : (List.replicate a.length (none : Option Int))[x.toNat]? with
      | none => rfl
      | some o => have := (List.mem_replicate.mp (List.mem_of_getElem? e)).2; subst this; rfl }
  | m + 1, h => (ringsN_rr ha m (by omega)).step ha (by omega)
theorem rings_heads {a : Arr} (ha : ArrOk a) : ((ringsW a).map headI).Perm (lawHeads a a.length) := by
  have r := ringsN_rr ha a.length (Nat.le_refl _)
  refine (List.perm_ext_iff_of_nodup r.nd (lawHeads_nodup a a.length)).mpr fun x => ?_
  change x ∈ (ringsN a a.length).2.map headI ↔ _
  rw [r.hd, lawHeads_mem]
  constructor
  · rintro ⟨h1, h2, h3⟩
    have hx : x < a.length := by
      refine Classical.byContradiction fun q => h3 ?_
      unfold walkedAt
      rw [List.getElem?_eq_none (by rw [r.len]; omega)]; rfl
    exact ⟨⟨h2, hx⟩, (isL_iff ha ⟨h2, hx⟩).mpr h1⟩
  · rintro ⟨⟨h1, h2⟩, h3⟩
    exact ⟨isL_of h3, h1, r.low x h1 h2⟩
end VL
-- P2
set_option maxHeartbeats 1000000
namespace VL
def sumN : Nat → (Nat → Nat) → Nat
  | 0, _ => 0
  | n + 1, f => sumN n f + f n
theorem sumN_add {f g : Nat → Nat} : ∀ n, sumN n (fun i => f i + g i) = sumN n f + sumN n g
  | 0 => rfl
  | n + 1 => by show sumN n _ + (f n + g n) = _ + _ + (_ + _); rw [sumN_add n]; omega
theorem sumN_le {f g : Nat → Nat} : ∀ n, (∀ i, i < n → f i ≤ g i) → sumN n f ≤ sumN n g
  | 0, _ => Nat.le_refl _
  | n + 1, h => Nat.add_le_add (sumN_le n fun i l => h i (by omega)) (h n (by omega))
theorem sumN_congr {f g : Nat → Nat} : ∀ n, (∀ i, i < n → f i = g i) → sumN n f = sumN n g
  | 0, _ => rfl
  | n + 1, h => by show sumN n f + f n = sumN n g + g n; rw [sumN_congr n fun i l => h i (by omega), h n (by omega)]
theorem sumN_eq {f g : Nat → Nat} : ∀ n, (∀ i, i < n → f i ≤ g i) → sumN n g ≤ sumN n f → ∀ i, i < n → f i = g i
  | 0, _, _, i, h => by omega
  | n + 1, h, q, i, hi => by
    have q' : sumN n g + g n ≤ sumN n f + f n := q
    have h1 := h n (by omega)
    have h2 := sumN_le n (f := f) (g := g) fun i l => h i (by omega)
    by_cases e : i = n
    · subst e; omega
    · exact sumN_eq n (fun i l => h i (by omega)) (by omega) i (by omega)
theorem sumN_zero : ∀ n, sumN n (fun _ => 0) = 0
  | 0 => rfl
  | n + 1 => sumN_zero n
theorem sumN_ind : ∀ (n : Nat) (x : Int), sumN n (fun i => if x = (i : Int) then 1 else 0) = if 0 ≤ x ∧ x < n then 1 else 0
  | 0, x => by rw [if_neg (by omega)]; rfl
  | n + 1, x => by
    show sumN n _ + (if x = (n : Int) then 1 else 0) = _
    rw [sumN_ind n x]
    by_cases h : x = n
    · rw [if_neg (by omega), if_pos h, if_pos (by omega)]
    · by_cases h2 : 0 ≤ x ∧ x < n
      · rw [if_pos h2, if_neg h, if_pos (by omega)]
      · rw [if_neg h2, if_neg h, if_neg (by omega)]
theorem sumN_count (n : Nat) : ∀ (l : List Int), (∀ x ∈ l, 0 ≤ x ∧ x < n) → sumN n (fun i => l.count (i : Int)) = l.length
  | [], _ => by rw [show (fun i : Nat => ([] : List Int).count (i : Int)) = fun _ => 0 from rfl, sumN_zero]; rfl
  | x :: l, h => by
    rw [show (fun i : Nat => (x :: l).count (i : Int)) = fun i : Nat => l.count (i : Int) + (if x = (i : Int) then 1 else 0) by
      funext i; rw [List.count_cons]; by_cases q : x = (i : Int) <;> simp [q]]
    rw [sumN_add, sumN_count n l fun z hz => h z (List.mem_cons_of_mem _ hz), sumN_ind, if_pos (h x List.mem_cons_self)]
    rfl
theorem sumN_left {f : Nat → Nat} : ∀ n, sumN (n + 1) f = f 0 + sumN n fun i => f (i + 1)
  | 0 => by show 0 + f 0 = f 0 + 0; omega
  | n + 1 => by
    show sumN (n + 1) f + f (n + 1) = f 0 + (sumN n (fun i => f (i + 1)) + f (n + 1))
    rw [sumN_left n]; omega
theorem left_sumN : ∀ (pss : Piles) (u : List Int), u.length = pss.length → left pss u = sumN pss.length fun i => (pss.getD i []).length - (u.getD i 0).toNat
  | [], [], _ => rfl
  | p :: ps, x :: u, h => by
    show p.length - x.toNat + left ps u = sumN (ps.length + 1) _
    rw [sumN_left, left_sumN ps u (by simpa using h)]
    rfl
def tk : Piles → List Int → Int → Nat
  | p :: ps, x :: u, v => (p.take x.toNat).count v + tk ps u v
  | _, _, _ => 0
def unt : Piles → List Int → List Int
  | p :: ps, x :: u => p.drop x.toNat ++ unt ps u
  | _, _ => []
theorem tk_zero (v : Int) : ∀ (pss : Piles), tk pss (List.replicate pss.length 0) v = 0
  | [] => rfl
  | p :: ps => by
    show (p.take (0 : Int).toNat).count v + tk ps (List.replicate ps.length 0) v = 0
    rw [tk_zero v ps]; simp
theorem tk_set {v w : Int} : ∀ {pss : Piles} {u : List Int} {i : Nat} {p : List Int} {x : Int}, pss[i]? = some p → u[i]? = some x → 0 ≤ x → p[x.toNat]? = some w → tk pss (u.set i (x + 1)) v = tk pss u v + (if w = v then 1 else 0)
  | [], _, _, _, _, h, _, _, _ => by simp at h
  | _ :: _, [], _, _, _, _, h, _, _ => by simp at h
  | p :: ps, y :: u, 0, _, _, h1, h2, h3, h4 => by
    simp at h1 h2; subst h1; subst h2
    show (p.take (y + 1).toNat).count v + tk ps u v = (p.take y.toNat).count v + tk ps u v + _
    rw [show (y + 1).toNat = y.toNat + 1 by omega, take_snoc h4, List.count_append, List.count_cons, List.count_nil]
    by_cases q : w = v <;> simp [q] <;> omega
  | p :: ps, y :: u, i + 1, q, x, h1, h2, h3, h4 => by
    have := tk_set (v := v) (pss := ps) (u := u) (i := i) (by simpa using h1) (by simpa using h2) h3 h4
    show (p.take y.toNat).count v + tk ps (u.set i (x + 1)) v = (p.take y.toNat).count v + tk ps u v + _
    rw [this]; omega
theorem unt_count (v : Int) : ∀ (pss : Piles) (u : List Int), u.length = pss.length → pss.flatten.count v = tk pss u v + (unt pss u).count v
  | [], [], _ => rfl
  | p :: ps, x :: u, h => by
    show (p ++ ps.flatten).count v = (p.take x.toNat).count v + tk ps u v + (p.drop x.toNat ++ unt ps u).count v
    rw [List.count_append, List.count_append, unt_count v ps u (by simpa using h)]
    have : p.count v = (p.take x.toNat).count v + (p.drop x.toNat).count v := by rw [← List.count_append, List.take_append_drop]
    omega
theorem unt_len : ∀ (pss : Piles) (u : List Int), (unt pss u).length = left pss u
  | [], [] => rfl
  | [], _ :: _ => rfl
  | _ :: _, [] => rfl
  | p :: ps, x :: u => by
    show (p.drop x.toNat ++ unt ps u).length = p.length - x.toNat + left ps u
    rw [List.length_append, List.length_drop, unt_len ps u]
theorem unt_mem : ∀ {pss : Piles} {u : List Int} {w : Int}, w ∈ unt pss u → ∃ p ∈ pss, w ∈ p
  | [], [], _, h => nomatch h
  | [], _ :: _, _, h => nomatch h
  | _ :: _, [], _, h => nomatch h
  | p :: ps, x :: u, w, h => by
    rcases List.mem_append.mp (show w ∈ p.drop x.toNat ++ unt ps u from h) with q | q
    · exact ⟨p, List.mem_cons_self, List.mem_of_mem_drop q⟩
    · obtain ⟨p', h1, h2⟩ := unt_mem q
      exact ⟨p', List.mem_cons_of_mem _ h1, h2⟩
theorem unt_at {w : Int} : ∀ {pss : Piles} {u : List Int} {i : Nat} {p : List Int} {x : Int}, pss[i]? = some p → u[i]? = some x → w ∈ p.drop x.toNat → w ∈ unt pss u
  | [], _, _, _, _, h, _, _ => by simp at h
  | _ :: _, [], _, _, _, _, h, _ => by simp at h
  | p :: ps, y :: u, 0, _, _, h1, h2, h3 => by
    simp at h1 h2; subst h1; subst h2
    exact List.mem_append_left _ h3
  | p :: ps, y :: u, i + 1, q, x, h1, h2, h3 => List.mem_append_right _ (unt_at (pss := ps) (u := u) (i := i) (by simpa using h1) (by simpa using h2) h3)
theorem used_set {pss : Piles} {u : List Int} {v y : Int} (hu : UsedOk pss u) (hv : InN pss v) (hy : InN pss y) : usedAt (u.set v.toNat (usedAt u v + 1)) y = usedAt u y + (if v = y then 1 else 0) := by
  unfold usedAt
  have hl := hu.1
  obtain ⟨a1, a2⟩ := hv
  obtain ⟨b1, b2⟩ := hy
  rw [List.getD_eq_getElem?_getD, List.getD_eq_getElem?_getD, List.getD_eq_getElem?_getD]
  by_cases q : v = y
  · subst q
    rw [List.getElem?_set_self (by omega), if_pos rfl]; rfl
  · rw [List.getElem?_set_ne (by omega), if_neg q]; omega
theorem tk_step {pss : Piles} {u : List Int} {v w y : Int} (hu : UsedOk pss u) (h : InN pss v) (q : nextS pss u v = some w) : tk pss (u.set v.toNat (usedAt u v + 1)) y = tk pss u y + (if w = y then 1 else 0) :=
  tk_set (pileAt_get h) (usedAt_get hu.1 h) (hu.at h).1 q
theorem next_keep {pss : Piles} {u : List Int} {v x : Int} (hu : UsedOk pss u) (hv : InN pss v) (hx : InN pss x) (ne : v ≠ x) : nextS pss (u.set v.toNat (usedAt u v + 1)) x = nextS pss u x := by
  unfold nextS
  rw [used_set hu hv hx, if_neg ne, Int.add_zero]
structure FH (pss : Piles) (R : Int → Prop) (xs st u : List Int) (v : Int) : Prop where
  used : UsedOk pss u
  here : InN pss v
  inn : ∀ x ∈ st, InN pss x
  ex : ∀ x ∈ st, nextS pss u x = none
  flow : ∀ y, InN pss y → (st.count y : Int) + (if v = y then 1 else 0) + usedAt u y = (xs.count y : Int) + (tk pss u y : Nat)
  ring : (∃ x, R x ∧ InN pss x ∧ nextS pss u x ≠ none) ∨ (∃ x ∈ st, R x) ∨ R v
theorem FH.step {pss : Piles} {R : Int → Prop} {xs st u : List Int} {v w : Int} (hn : NamesOk pss) (hR : ∀ v w, R v → (pileAt pss v).getLast? = some w → R w) (i : FH pss R xs st u v) (q : nextS pss u v = some w) :
    FH pss R xs st (u.set v.toNat (usedAt u v + 1)) w where
  used := i.used.step i.here q
  here := next_in hn i.here q
  inn := i.inn
  ex := fun x hx => by
    have ne : v ≠ x := fun e => by rw [e] at q; rw [i.ex x hx] at q; cases q
    rw [next_keep i.used i.here (i.inn x hx) ne]
    exact i.ex x hx
  flow := fun y hy => by
    have h1 := i.flow y hy
    rw [used_set i.used i.here hy, tk_step i.used i.here q]
    by_cases a : v = y <;> by_cases b : w = y <;> simp only [a, b, if_true, if_false] at h1 ⊢ <;> omega
  ring := by
    by_cases z : ∃ x, R x ∧ InN pss x ∧ v ≠ x ∧ nextS pss u x ≠ none
    · obtain ⟨x, h1, h2, h3, h4⟩ := z
      exact .inl ⟨x, h1, h2, by rw [next_keep i.used i.here h2 h3]; exact h4⟩
    · have key : R v → (∃ x, R x ∧ InN pss x ∧ nextS pss (u.set v.toNat (usedAt u v + 1)) x ≠ none) ∨ (∃ x ∈ st, R x) ∨ R w := fun hv => by
        by_cases e : nextS pss (u.set v.toNat (usedAt u v + 1)) v = none
        · refine .inr (.inr (hR v w hv ?_))
          unfold nextS at e q
          rw [used_set i.used i.here i.here, if_pos rfl] at e
          obtain ⟨u0, u1⟩ := i.used.at i.here
          have l1 := List.getElem?_eq_none_iff.mp e
          have l2 := (List.getElem?_eq_some_iff.mp q).1
          rw [List.getLast?_eq_getElem?, show (pileAt pss v).length - 1 = (usedAt u v).toNat by omega]
          exact q
        · exact .inl ⟨v, hv, i.here, e⟩
      rcases i.ring with ⟨x, h1, h2, h3⟩ | h | h
      · by_cases e : v = x
        · subst e; exact key h1
        · exact absurd ⟨x, h1, h2, e, h3⟩ z
      · exact .inr (.inl h)
      · exact key h
theorem hop_FH {pss : Piles} {R : Int → Prop} {xs st : List Int} {j : Int} (hn : NamesOk pss) (hR : ∀ v w, R v → (pileAt pss v).getLast? = some w → R w) : ∀ (k : Nat) {l : List (List Int)} {u : List Int} {v : Int}, FH pss R xs st u v → left pss u < k →
    FH pss R xs st (hop pss j k (l, u, v)).2.1 (hop pss j k (l, u, v)).2.2 ∧ nextS pss (hop pss j k (l, u, v)).2.1 (hop pss j k (l, u, v)).2.2 = none
  | 0, l, u, v, i, h => absurd h (Nat.not_lt_zero _)
  | k + 1, l, u, v, i, h => by
    cases e : nextS pss u v with
    | none => rw [hop_stop e]; exact ⟨i, e⟩
    | some w =>
      rw [hop_step e]
      have := left_step i.used i.here e
      exact hop_FH hn hR k (i.step hn hR e) (by omega)
structure FL (pss : Piles) (R : Int → Prop) (xs st u : List Int) : Prop where
  used : UsedOk pss u
  inn : ∀ x ∈ st, InN pss x
  ex : ∀ x ∈ st, nextS pss u x = none
  flow : ∀ y, InN pss y → (st.count y : Int) + usedAt u y = (xs.count y : Int) + (tk pss u y : Nat)
  ring : (∃ x, R x ∧ InN pss x ∧ nextS pss u x ≠ none) ∨ ∃ x ∈ st, R x
theorem FL.run {pss : Piles} {R : Int → Prop} (hn : NamesOk pss) (hR : ∀ v w, R v → (pileAt pss v).getLast? = some w → R w) : ∀ (ys : List Int) (j : Nat) {xs : List Int} {l : List (List Int)} {u st : List Int}, FL pss R xs st u → (∀ y ∈ ys, InN pss y) →
    FL pss R (xs ++ ys) (runL pss (total pss + 1) j ys (l, u, st)).2.2 (runL pss (total pss + 1) j ys (l, u, st)).2.1
  | [], j, xs, l, u, st, i, _ => by rw [List.append_nil]; exact i
  | y :: ys, j, xs, l, u, st, i, hy => by
    have hyn := hy y List.mem_cons_self
    have i0 : FH pss R (xs ++ [y]) st u y := {
      used := i.used
      here := hyn
      inn := i.inn
      ex := i.ex
      flow := fun z hz => by
        have := i.flow z hz
        rw [List.count_append, List.count_cons, List.count_nil]
        by_cases q : y = z <;> simp [q] <;> omega
      ring := by
        rcases i.ring with h | h
        · exact .inl h
        · exact .inr (.inl h) }
    obtain ⟨i1, e1⟩ := hop_FH (j := (j : Int)) hn hR (total pss + 1) (l := l) i0 (by have := left_le (pss := pss) (u := u); omega)
    show FL pss R (xs ++ y :: ys) (runL pss (total pss + 1) (j + 1) ys (run1 pss (total pss + 1) j (l, u, st) y)).2.2 (runL pss (total pss + 1) (j + 1) ys (run1 pss (total pss + 1) j (l, u, st) y)).2.1
    have er : run1 pss (total pss + 1) j (l, u, st) y = ((hop pss j (total pss + 1) (l, u, y)).1, (hop pss j (total pss + 1) (l, u, y)).2.1, st ++ [(hop pss j (total pss + 1) (l, u, y)).2.2]) := rfl
    rw [er, show xs ++ y :: ys = (xs ++ [y]) ++ ys by simp]
    refine FL.run hn hR ys (j + 1) {
      used := i1.used
      inn := fun x hx => by
        rcases List.mem_append.mp hx with q | q
        · exact i1.inn x q
        · rw [List.mem_singleton.mp q]; exact i1.here
      ex := fun x hx => by
        rcases List.mem_append.mp hx with q | q
        · exact i1.ex x q
        · rw [List.mem_singleton.mp q]; exact e1
      flow := fun z hz => by
        have h1 := i1.flow z hz
        rw [List.count_append, List.count_cons, List.count_nil]
        generalize (hop pss j (total pss + 1) (l, u, y)).2.2 = W at h1 ⊢
        by_cases q : W = z <;> simp [q] at h1 ⊢ <;> omega
      ring := by
        rcases i1.ring with h | ⟨x, h1, h2⟩ | h
        · exact .inl h
        · exact .inr ⟨x, List.mem_append_left _ h1, h2⟩
        · exact .inr ⟨_, List.mem_append_right _ List.mem_cons_self, h⟩ } fun z hz => hy z (List.mem_cons_of_mem _ hz)
theorem runP_FL {pss : Piles} {R : Int → Prop} {starts : List Int} (hn : NamesOk pss) (hs : ∀ x ∈ starts, InN pss x) (hR : ∀ v w, R v → (pileAt pss v).getLast? = some w → R w) (h0 : ∃ x, R x ∧ InN pss x ∧ pileAt pss x ≠ []) :
    FL pss R starts (runP pss starts).2.2 (runP pss starts).2.1 := by
  have := FL.run (R := R) hn hR starts 0 (xs := []) (l := []) (u := List.replicate pss.length 0) (st := []) {
    used := used_zero pss
    inn := fun x h => nomatch h
    ex := fun x h => nomatch h
    flow := fun y hy => by
      have : usedAt (List.replicate pss.length 0) y = 0 := by
        unfold usedAt
        rw [List.getD_eq_getElem?_getD, List.getElem?_replicate]
        split <;> rfl
      rw [this, tk_zero]; rfl
    ring := by
      obtain ⟨x, h1, h2, h3⟩ := h0
      refine .inl ⟨x, h1, h2, fun e => h3 ?_⟩
      have : usedAt (List.replicate pss.length 0) x = 0 := by
        unfold usedAt
        rw [List.getD_eq_getElem?_getD, List.getElem?_replicate]
        split <;> rfl
      unfold nextS at e
      rw [this] at e
      exact List.eq_nil_of_length_eq_zero (by have := List.getElem?_eq_none_iff.mp e; simpa using this) } hs
  rw [List.nil_append] at this
  exact this
def named (pss : Piles) (v : Int) : Nat := pss.flatten.count v
def sizeAt (pss : Piles) (v : Int) : Nat := (pileAt pss v).length
theorem runP_left {pss : Piles} {starts : List Int} (hn : NamesOk pss) (hs : ∀ x ∈ starts, InN pss x) : (runP pss starts).1.length + left pss (runP pss starts).2.1 = total pss := by
  have := runL_sum (fuel := total pss + 1) hn starts 0 (run0 pss) hs (used_zero pss)
  rw [show (run0 pss).1.length + left pss (run0 pss).2.1 = total pss by show 0 + left pss (List.replicate pss.length 0) = _; rw [left_zero]; omega] at this
  exact this
theorem lack_nx {pss : Piles} {v : Int} (h : InN pss v) : nx (lackArr pss) v = if ((sizeAt pss v : Nat) : Int) < (named pss v : Nat) then none else (pileAt pss v).getLast? := by
  unfold nx sizeAt named
  have := lackArr_get (pileAt_get h)
  rw [this]
  rw [show ((v.toNat : Nat) : Int) = v by have := h.1; omega]
  rfl
theorem names_flat {pss : Piles} (hn : NamesOk pss) : ∀ x ∈ pss.flatten, InN pss x := fun x hx => by
  obtain ⟨p, h1, h2⟩ := List.mem_flatten.mp hx
  exact hn p h1 x h2
theorem last_named {pss : Piles} {v w : Int} (h : InN pss v) (e : (pileAt pss v).getLast? = some w) : 0 < named pss w :=
  List.count_pos_iff.mpr (List.mem_flatten.mpr ⟨pileAt pss v, List.mem_of_getElem? (pileAt_get h), List.mem_of_getLast? e⟩)
theorem takes_all {pss : Piles} {starts : List Int} (hn : NamesOk pss) (hs : ∀ x ∈ starts, InN pss x) (h1 : ∀ v, InN pss v → sizeAt pss v ≤ starts.count v + named pss v)
    (h2 : ∀ m, InN pss m → isL (lackArr pss) m = true → sizeAt pss m + 1 ≤ starts.count m + named pss m) : (runP pss starts).1.length = total pss := by
  have hL := runP_left hn hs
  refine Classical.byContradiction fun q => ?_
  have fl := runL_ok (fuel := total pss + 1) hn starts 0 (run0 pss) hs (used_zero pss) (fun x h => nomatch h)
  have hex : ∃ x, InN pss x ∧ pileAt pss x ≠ [] := by
    refine Classical.byContradiction fun z => ?_
    have : total pss = 0 := by
      unfold total
      have : pss.map List.length = List.replicate pss.length 0 := by
        refine List.eq_replicate_iff.mpr ⟨List.length_map .., fun b hb => ?_⟩
        obtain ⟨p, hp, rfl⟩ := List.mem_map.mp hb
        obtain ⟨i, hi, e⟩ := List.mem_iff_getElem.mp hp
        refine Classical.byContradiction fun z2 => z ⟨(i : Int), ⟨by omega, by omega⟩, fun e2 => z2 ?_⟩
        have e3 : pileAt pss (i : Int) = p := by
          unfold pileAt
          rw [List.getD_eq_getElem?_getD, Int.toNat_natCast, List.getElem?_eq_getElem hi, e]; rfl
        rw [← e3, e2]; rfl
      rw [this]
      have z : ∀ n, (List.replicate n 0).sum = 0 := fun n => by
        induction n with
        | zero => rfl
        | succ n ih => rw [List.replicate_succ, List.sum_cons, ih]
      exact z _
    omega
  have F := runP_FL (R := fun _ => True) hn hs (fun _ _ _ _ => trivial) (by obtain ⟨x, a, b⟩ := hex; exact ⟨x, trivial, a, b⟩)
  generalize hu : (runP pss starts).2.1 = u at F hL
  generalize hst : (runP pss starts).2.2 = st at F
  have ul := F.used.1
  have ulen : 0 < (unt pss u).length := by rw [unt_len]; omega
  have uin : ∀ x ∈ unt pss u, InN pss x := fun x hx => by
    obtain ⟨p, a, b⟩ := unt_mem hx
    exact hn p a x b
  have rem : ∀ i, i < pss.length → (pss.getD i []).length - (u.getD i 0).toNat ≤ (unt pss u).count (i : Int) := fun i hi => by
    have hv : InN pss (i : Int) := ⟨by omega, by omega⟩
    have f := F.flow (i : Int) hv
    have c := unt_count (i : Int) pss u ul
    have g := h1 (i : Int) hv
    obtain ⟨u0, u1⟩ := F.used.at hv
    have eu : usedAt u (i : Int) = u.getD i 0 := rfl
    have ep : pileAt pss (i : Int) = pss.getD i [] := rfl
    rw [← eu, ← ep]
    by_cases z : usedAt u (i : Int) < (pileAt pss (i : Int)).length
    · have c0 : st.count (i : Int) = 0 := by
        refine List.count_eq_zero.mpr fun hm => ?_
        obtain ⟨w, hw⟩ := (next_iff F.used hv).mp z
        rw [F.ex _ hm] at hw
        cases hw
      unfold sizeAt named at g
      rw [c0] at f
      omega
    · omega
  have key := sumN_eq pss.length rem (by
    rw [sumN_count pss.length (unt pss u) fun x hx => uin x hx, unt_len, left_sumN pss u ul]
    exact Nat.le_refl _)
  have keyv : ∀ v, InN pss v → (pileAt pss v).length - (usedAt u v).toNat = (unt pss u).count v := fun v hv => by
    have := key v.toNat (by have := hv.2; have := hv.1; omega)
    rw [show ((v.toNat : Nat) : Int) = v by have := hv.1; omega] at this
    exact this
  obtain ⟨x0, hx0⟩ := List.exists_mem_of_length_pos ulen
  have eqs : ∀ v, InN pss v → 0 < (unt pss u).count v → starts.count v + named pss v = sizeAt pss v := fun v hv hp => by
    have f := F.flow v hv
    have c := unt_count v pss u ul
    have g := h1 v hv
    have k := keyv v hv
    obtain ⟨u0, u1⟩ := F.used.at hv
    have z : usedAt u v < (pileAt pss v).length := by omega
    have c0 : st.count v = 0 := by
      refine List.count_eq_zero.mpr fun hm => ?_
      obtain ⟨w, hw⟩ := (next_iff F.used hv).mp z
      rw [F.ex _ hm] at hw
      cases hw
    unfold sizeAt named at g ⊢
    rw [c0] at f
    omega
  obtain ⟨m, k, a1, a2, a3, a4, a5⟩ := ring_in (a := lackArr pss) (n := pss.length) (U := fun v => InN pss v ∧ 0 < (unt pss u).count v) (fun v ⟨hv, hp⟩ => by
    have e := eqs v hv hp
    have k := keyv v hv
    have ne : pileAt pss v ≠ [] := fun z => by rw [z] at k; simp at k; omega
    obtain ⟨w, hw⟩ : ∃ w, (pileAt pss v).getLast? = some w := ⟨_, List.getLast?_eq_some_getLast ne⟩
    obtain ⟨u0, u1⟩ := F.used.at hv
    have hwu : w ∈ unt pss u := by
      refine unt_at (pileAt_get hv) (usedAt_get ul hv) ?_
      have lt : (usedAt u v).toNat < (pileAt pss v).length := by omega
      refine List.mem_of_getLast? (l := (pileAt pss v).drop (usedAt u v).toNat) ?_
      rw [List.getLast?_drop, if_neg (by omega)]
      exact hw
    refine ⟨w, ?_, uin w hwu, List.count_pos_iff.mpr hwu⟩
    rw [lack_nx hv, if_neg (by omega)]
    exact hw) (fun v h => h.1) (u := x0) ⟨uin x0 hx0, List.count_pos_iff.mpr hx0⟩
  have mi := isL_to a2 a3 (by rw [lackArr_len]; exact a4) a5
  have := h2 m a1.1 mi
  have := eqs m a1.1 a1.2
  omega
theorem takes_few {pss : Piles} {starts : List Int} (hn : NamesOk pss) (hs : ∀ x ∈ starts, InN pss x) (h : (runP pss starts).1.length = total pss) :
    sumN pss.length (fun i => sizeAt pss (i : Int) - named pss (i : Int)) + (lawHeads (lackArr pss) pss.length).length ≤ starts.length := by
  have hL := runP_left hn hs
  have hok := lackArr_ok hn
  have hlen := lackArr_len pss
  have used0 := (runL_ok (fuel := total pss + 1) hn starts 0 (run0 pss) hs (used_zero pss) (fun x h => nomatch h)).1
  change UsedOk pss (runP pss starts).2.1 at used0
  have full : ∀ v, InN pss v → usedAt (runP pss starts).2.1 v = (pileAt pss v).length := fun v hv => by
    have l0 : left pss (runP pss starts).2.1 = 0 := by omega
    rw [left_sumN pss _ used0.1] at l0
    obtain ⟨a, b⟩ := used0.at hv
    have hz := sumN_eq (f := fun _ => 0) (g := fun i => (pss.getD i []).length - ((runP pss starts).2.1.getD i 0).toNat) pss.length (fun _ _ => Nat.zero_le _) (by rw [l0]; omega) v.toNat (by have := hv.2; have := hv.1; omega)
    change 0 = (pileAt pss v).length - (usedAt (runP pss starts).2.1 v).toNat at hz
    omega
  have nomore : ∀ v, InN pss v → nextS pss (runP pss starts).2.1 v = none := fun v hv => next_none used0 hv (by rw [full v hv]; omega)
  have untz : ∀ v, (unt pss (runP pss starts).2.1).count v = 0 := fun v => by
    have : (unt pss (runP pss starts).2.1).length = 0 := by rw [unt_len]; omega
    rw [List.eq_nil_of_length_eq_zero this]; rfl
  have each : ∀ m, InN pss m → isL (lackArr pss) m = true → ∃ x ∈ (runP pss starts).2.2, Reach (lackArr pss) m x ∧ InN pss x := fun m hm hl => by
    have hL := isL_of hl
    have hin : ∀ x, Reach (lackArr pss) m x → InN pss x := fun x ⟨k, hk⟩ => by
      have := it_in (S := fun y => 0 ≤ y ∧ y < (lackArr pss).length) (fun x y _ hy => nx_in hok hy) k (by rw [hlen]; exact hm) hk
      rw [hlen] at this
      exact this
    have some_ : ∀ x, Reach (lackArr pss) m x → ∃ w, (pileAt pss x).getLast? = some w ∧ nx (lackArr pss) x = some w := fun x hx => by
      have hc := hL.1.of hx
      cases e : nx (lackArr pss) x with
      | none => exact absurd e (hc.some 1)
      | some w =>
        have e' := e
        rw [lack_nx (hin x hx)] at e'
        by_cases z : ((sizeAt pss x : Nat) : Int) < (named pss x : Nat)
        · rw [if_pos z] at e'; cases e'
        · rw [if_neg z] at e'; exact ⟨w, e', rfl⟩
    have F := runP_FL (R := fun x => Reach (lackArr pss) m x) (starts := starts) hn hs (fun v w hv hw => by
      obtain ⟨w', e1, e2⟩ := some_ v hv
      rw [hw] at e1; cases e1
      exact hv.trans (.one e2)) ⟨m, .refl, hm, fun e => by
      obtain ⟨w, e1, _⟩ := some_ m .refl
      rw [e] at e1; cases e1⟩
    rcases F.ring with ⟨x, a, b, c⟩ | ⟨x, a, b⟩
    · exact absurd (nomore x b) c
    · exact ⟨x, a, b, F.inn x a⟩
  have pick : ∀ ms : List Int, ms.Nodup → (∀ m ∈ ms, InN pss m ∧ isL (lackArr pss) m = true) → ∃ X : List Int, X.length = ms.length ∧ X.Nodup ∧ ∀ x ∈ X, InN pss x ∧ x ∈ (runP pss starts).2.2 ∧ ∃ m ∈ ms, Reach (lackArr pss) m x := fun ms => by
    induction ms with
    | nil => intro _ _; exact ⟨[], rfl, List.Pairwise.nil, fun x h => nomatch h⟩
    | cons m ms ih =>
      intro nd hm
      obtain ⟨nd1, nd2⟩ := List.nodup_cons.mp nd
      obtain ⟨X, x1, x2, x3⟩ := ih nd2 fun z hz => hm z (List.mem_cons_of_mem _ hz)
      obtain ⟨hmn, hml⟩ := hm m List.mem_cons_self
      obtain ⟨x, a, b, c⟩ := each m hmn hml
      refine ⟨x :: X, by simp [x1], List.nodup_cons.mpr ⟨fun hx => ?_, x2⟩, fun z hz => ?_⟩
      · obtain ⟨_, _, m', hm', r'⟩ := x3 x hx
        have := (isL_of hml).uniq (isL_of (hm m' (List.mem_cons_of_mem _ hm')).2) b r'
        subst this
        exact nd1 hm'
      · rcases List.mem_cons.mp hz with rfl | hz
        · exact ⟨c, a, m, List.mem_cons_self, b⟩
        · obtain ⟨h1, h2, m', h3, h4⟩ := x3 z hz
          exact ⟨h1, h2, m', List.mem_cons_of_mem _ h3, h4⟩
  obtain ⟨X, x1, x2, x3⟩ := pick (lawHeads (lackArr pss) pss.length) (lawHeads_nodup _ _) fun m hm => by
    obtain ⟨a, b⟩ := lawHeads_mem.mp hm
    exact ⟨a, b⟩
  rw [← x1, ← sumN_count pss.length starts hs, ← sumN_count pss.length X fun x hx => (x3 x hx).1, ← sumN_add]
  have flow : ∀ y, InN pss y → ((runP pss starts).2.2.count y : Int) + (sizeAt pss y : Nat) = (starts.count y : Int) + (named pss y : Nat) := fun y hy => by
    by_cases hex : pileAt pss y = [] ∧ ∀ x, InN pss x → pileAt pss x = []
    · -- no slips at all
      have F := FL.run (R := fun _ => True) hn (fun _ _ _ _ => trivial) starts 0 (xs := []) (l := []) (u := List.replicate pss.length 0) (st := [])
      have e0 : named pss y = 0 := by
        unfold named
        refine List.count_eq_zero.mpr fun hm => ?_
        obtain ⟨p, h1, h2⟩ := List.mem_flatten.mp hm
        obtain ⟨i, hi, e⟩ := List.mem_iff_getElem.mp h1
        have := hex.2 (i : Int) ⟨by omega, by omega⟩
        have e3 : pileAt pss (i : Int) = p := by
          unfold pileAt
          rw [List.getD_eq_getElem?_getD, Int.toNat_natCast, List.getElem?_eq_getElem hi, e]; rfl
        rw [e3] at this
        rw [this] at h2
        cases h2
      have noN : ∀ (u : List Int) (v : Int), InN pss v → nextS pss u v = none := fun u v hv => by
        unfold nextS; rw [hex.2 v hv]; rfl
      have st : ∀ (ys : List Int) (j : Nat) (s : RT), (∀ y ∈ ys, InN pss y) → (runL pss (total pss + 1) j ys s).2.2 = s.2.2 ++ ys := fun ys => by
        induction ys with
        | nil => intro j s _; simp [runL]
        | cons z ys ih =>
          intro j s h
          show (runL pss (total pss + 1) (j + 1) ys (run1 pss (total pss + 1) j s z)).2.2 = _
          rw [ih (j + 1) _ fun w hw => h w (List.mem_cons_of_mem _ hw)]
          show s.2.2 ++ [(hop pss j (total pss + 1) (s.1, s.2.1, z)).2.2] ++ ys = _
          rw [hop_stop (noN _ z (h z List.mem_cons_self))]
          simp
      have e1 : (runP pss starts).2.2 = starts := by
        have := st starts 0 (run0 pss) hs
        exact this.trans (List.nil_append _)
      rw [e1, e0]
      unfold sizeAt
      rw [hex.1]
      rfl
    · have hx0 : ∃ x, InN pss x ∧ pileAt pss x ≠ [] := by
        refine Classical.byContradiction fun z => hex ⟨?_, fun x hx => ?_⟩
        · exact Classical.byContradiction fun w => z ⟨y, hy, w⟩
        · exact Classical.byContradiction fun w => z ⟨x, hx, w⟩
      have F := runP_FL (R := fun _ => True) (starts := starts) hn hs (fun _ _ _ _ => trivial) (by obtain ⟨x, a, b⟩ := hx0; exact ⟨x, trivial, a, b⟩)
      have f := F.flow y hy
      have c := unt_count y pss (runP pss starts).2.1 used0.1
      rw [untz y] at c
      rw [full y hy] at f
      unfold sizeAt named
      omega
  refine sumN_le _ fun i hi => ?_
  have hv : InN pss (i : Int) := ⟨by omega, by omega⟩
  have f := flow (i : Int) hv
  by_cases hx : (i : Int) ∈ X
  · obtain ⟨_, a, m, hm, r⟩ := x3 _ hx
    have c1 : X.count (i : Int) = 1 := by rw [List.Nodup.count x2, if_pos hx]
    have c2 : 0 < (runP pss starts).2.2.count (i : Int) := List.count_pos_iff.mpr a
    have hs' : named pss (i : Int) ≤ sizeAt pss (i : Int) := by
      have hc := (isL_of (lawHeads_mem.mp hm).2).1.of r
      cases e : nx (lackArr pss) (i : Int) with
      | none => exact absurd e (hc.some 1)
      | some w =>
        rw [lack_nx hv] at e
        by_cases z : ((sizeAt pss (i : Int) : Nat) : Int) < (named pss (i : Int) : Nat)
        · rw [if_pos z] at e; cases e
        · omega
    omega
  · have c1 : X.count (i : Int) = 0 := List.count_eq_zero.mpr hx
    omega
end VL
-- P3
set_option maxHeartbeats 1000000
namespace VL
def sizesI (pss : Piles) : List Int := pss.map fun ns => (ns.length : Int)
def otherP (sizes starts pack : List Int) (m : Nat) : List Int := ((List.range m).map fun (i : Nat) => (i : Int)).filter fun v => decide ((endc sizes starts pack).getD v.toNat 0 = 0) && decide (0 < sizes.getD v.toNat 0)
theorem otherP_succ (sizes starts pack : List Int) (m : Nat) : otherP sizes starts pack (m + 1) = otherP sizes starts pack m ++ (if (decide ((endc sizes starts pack).getD m 0 = 0) && decide (0 < sizes.getD m 0)) = true then [(m : Int)] else []) := by
  unfold otherP
  rw [List.range_succ, List.map_append, List.filter_append]
  congr 1
  simp only [List.map_cons, List.map_nil, List.filter_cons, List.filter_nil, Int.toNat_natCast]
theorem otherP_mem {sizes starts pack : List Int} {m : Nat} {v : Int} : v ∈ otherP sizes starts pack m ↔ (0 ≤ v ∧ v < m) ∧ (endc sizes starts pack).getD v.toNat 0 = 0 ∧ 0 < sizes.getD v.toNat 0 := by
  unfold otherP
  rw [List.mem_filter, List.mem_map, Bool.and_eq_true_iff, decide_eq_true_iff, decide_eq_true_iff]
  constructor
  · rintro ⟨⟨i, hi, rfl⟩, h⟩
    have := List.mem_range.mp hi
    exact ⟨by omega, h⟩
  · rintro ⟨h, q⟩
    exact ⟨⟨v.toNat, List.mem_range.mpr (by omega), by omega⟩, q⟩
def aimFol (pss : Piles) (starts : List Int) : List Int := otherP (sizesI pss) starts (tally pss.length pss.flatten) pss.length
def aimArr (pss : Piles) (starts : List Int) : Arr := (List.range pss.length).map fun (v : Nat) => if (v : Int) ∈ aimFol pss starts then (pss.getD v []).getLast? else none
theorem aimArr_len (pss : Piles) (starts : List Int) : (aimArr pss starts).length = pss.length := by unfold aimArr; rw [List.length_map, List.length_range]
theorem aimArr_get {pss : Piles} {starts : List Int} {m : Nat} {ns : List Int} (h : pss[m]? = some ns) : (aimArr pss starts)[m]? = some (if (m : Int) ∈ aimFol pss starts then ns.getLast? else none) := by
  have hm := (List.getElem?_eq_some_iff.mp h).1
  unfold aimArr
  rw [List.getElem?_map, List.getElem?_range hm]
  simp only [Option.map_some]
  rw [List.getD_eq_getElem?_getD, h]
  rfl
theorem lackP_at {pss : Piles} {i : Nat} (h : i < pss.length) : (lackP pss).getD i 0 = max 0 ((sizeAt pss (i : Int) : Int) - (named pss (i : Int) : Int)) := by
  unfold lackP
  rw [List.getD_eq_getElem?_getD, List.getElem?_map, List.getElem?_range h]
  simp only [Option.map_some, Option.getD_some]
  unfold sizeAt named pileAt tally
  rw [List.getD_eq_getElem?_getD (l := List.map _ _), List.getElem?_map, List.getElem?_range h]
  rfl
theorem lackL_count (pss : Piles) (v : Int) : ∀ m, m ≤ pss.length → (lackL pss m).count v = if 0 ≤ v ∧ v < m then sizeAt pss v - named pss v else 0
  | 0, _ => by rw [if_neg (by omega)]; rfl
  | m + 1, h => by
    show (lackL pss m ++ List.replicate ((lackP pss).getD m 0).toNat (m : Int)).count v = _
    rw [List.count_append, lackL_count pss v m (by omega), lackP_at (i := m) (by omega), List.count_replicate]
    by_cases q : (m : Int) = v
    · subst q
      rw [if_neg (c := 0 ≤ (m : Int) ∧ (m : Int) < m) (by omega), if_pos (c := 0 ≤ (m : Int) ∧ (m : Int) < ((m + 1 : Nat) : Int)) (by omega), if_pos (beq_self_eq_true _)]
      omega
    · rw [if_neg (c := ((m : Int) == v) = true) (fun z => q (eq_of_beq z))]
      by_cases q2 : 0 ≤ v ∧ v < m
      · rw [if_pos q2, if_pos (c := 0 ≤ v ∧ v < ((m + 1 : Nat) : Int)) (by omega)]; omega
      · rw [if_neg q2, if_neg (c := 0 ≤ v ∧ v < ((m + 1 : Nat) : Int)) (by omega)]
theorem lackL_mem {pss : Piles} {v : Int} (h : v ∈ lackL pss pss.length) : InN pss v := by
  have c : 0 < (lackL pss pss.length).count v := List.count_pos_iff.mpr h
  rw [lackL_count pss v _ (Nat.le_refl _)] at c
  by_cases q : 0 ≤ v ∧ v < pss.length
  · exact q
  · rw [if_neg q] at c; omega
theorem lackL_len (pss : Piles) : ∀ m, m ≤ pss.length → (lackL pss m).length = sumN m fun i => sizeAt pss (i : Int) - named pss (i : Int)
  | 0, _ => rfl
  | m + 1, h => by
    show (lackL pss m ++ List.replicate ((lackP pss).getD m 0).toNat (m : Int)).length = sumN m _ + (sizeAt pss (m : Int) - named pss (m : Int))
    rw [List.length_append, lackL_len pss m (by omega), List.length_replicate, lackP_at (i := m) (by omega)]
    congr 1
    omega
theorem sum_take : ∀ (l : List Int) (m : Nat), (l.take (m + 1)).sum = (l.take m).sum + l.getD m 0
  | [], m => by simp
  | x :: l, 0 => by simp
  | x :: l, m + 1 => by
    have := sum_take l m
    rw [List.take_succ_cons, List.take_succ_cons, List.sum_cons, List.sum_cons, this, List.getD_cons_succ]
    omega
theorem lackP_sumN (pss : Piles) : ∀ m, m ≤ pss.length → ((lackP pss).take m).sum = ((sumN m fun i => sizeAt pss (i : Int) - named pss (i : Int) : Nat) : Int)
  | 0, _ => rfl
  | m + 1, h => by
    rw [sum_take, lackP_sumN pss m (by omega), lackP_at (i := m) (by omega)]
    show _ = ((sumN m _ + (sizeAt pss (m : Int) - named pss (m : Int)) : Nat) : Int)
    omega
theorem sizesI_at {pss : Piles} {i : Nat} (h : i < pss.length) : (sizesI pss).getD i 0 = (sizeAt pss (i : Int) : Int) := by
  unfold sizesI sizeAt pileAt
  rw [List.getD_eq_getElem?_getD, List.getElem?_map, List.getD_eq_getElem?_getD, Int.toNat_natCast, List.getElem?_eq_getElem h]
  rfl
theorem tally_at {n : Nat} {row : List Int} {i : Nat} (h : i < n) : (tally n row).getD i 0 = ((row.count (i : Int) : Nat) : Int) := by
  unfold tally
  rw [List.getD_eq_getElem?_getD, List.getElem?_map, List.getElem?_range h]
  rfl
theorem endc_at {sizes starts pack : List Int} {i : Nat} (h : i < sizes.length) : (endc sizes starts pack).getD i 0 = pack.getD i 0 - sizes.getD i 0 + ((starts.count (i : Int) : Nat) : Int) := by
  unfold endc
  rw [List.getD_eq_getElem?_getD, List.getElem?_map, List.getElem?_range h]
  rfl
theorem aimFol_mem {pss : Piles} {starts : List Int} {i : Nat} (h : i < pss.length) : (i : Int) ∈ aimFol pss starts ↔ named pss (i : Int) + starts.count (i : Int) = sizeAt pss (i : Int) ∧ 0 < sizeAt pss (i : Int) := by
  unfold aimFol
  rw [otherP_mem, Int.toNat_natCast, endc_at (by unfold sizesI; rw [List.length_map]; exact h), sizesI_at h, tally_at h]
  unfold named
  omega
theorem aim_lack (pss : Piles) : aimArr pss (lackL pss pss.length) = lackArr pss := by
  refine List.ext_getElem? fun m => ?_
  by_cases hm : m < pss.length
  · obtain ⟨ns, hns⟩ := get_lt hm
    rw [aimArr_get hns, lackArr_get hns]
    have e0 : sizeAt pss (m : Int) = ns.length := by
      unfold sizeAt pileAt
      rw [List.getD_eq_getElem?_getD, Int.toNat_natCast, hns]; rfl
    have e1 : named pss (m : Int) = pss.flatten.count (m : Int) := rfl
    have hf := aimFol_mem (starts := lackL pss pss.length) hm
    rw [lackL_count pss _ _ (Nat.le_refl _), if_pos (by omega), e0, e1] at hf
    by_cases q : (ns.length : Int) < ((pss.flatten.count (m : Int) : Nat) : Int)
    · rw [if_pos q, if_neg (fun h => by have := hf.mp h; omega)]
    · rw [if_neg q]
      by_cases z : 0 < ns.length
      · rw [if_pos (hf.mpr ⟨by omega, z⟩)]
      · have : ns = [] := List.eq_nil_of_length_eq_zero (by omega)
        subst this
        split <;> rfl
  · rw [List.getElem?_eq_none (by rw [aimArr_len]; omega), List.getElem?_eq_none (by rw [lackArr_len]; omega)]
def ToldR (pss : Piles) (rl : List Int) : Prop := rl.Perm (lackL pss pss.length ++ lawHeads (lackArr pss) pss.length) ∧ rl.Pairwise (fun x y => x ≤ y)
theorem ToldR.inn {pss : Piles} {rl : List Int} (t : ToldR pss rl) : ∀ x ∈ rl, InN pss x := fun x hx => by
  rcases List.mem_append.mp (t.1.mem_iff.mp hx) with h | h
  · exact lackL_mem h
  · exact (lawHeads_mem.mp h).1
theorem ToldR.takes {pss : Piles} {rl : List Int} (hn : NamesOk pss) (t : ToldR pss rl) : (runP pss rl).1.length = total pss := by
  have cnt : ∀ v, InN pss v → rl.count v = (sizeAt pss v - named pss v) + (lawHeads (lackArr pss) pss.length).count v := fun v hv => by
    rw [t.1.count_eq, List.count_append, lackL_count pss v _ (Nat.le_refl _), if_pos (show 0 ≤ v ∧ v < pss.length from hv)]
  refine takes_all hn t.inn (fun v hv => by rw [cnt v hv]; omega) fun m hm hl => ?_
  rw [cnt m hm]
  have : 0 < (lawHeads (lackArr pss) pss.length).count m := List.count_pos_iff.mpr (lawHeads_mem.mpr ⟨hm, hl⟩)
  omega
theorem ToldR.len {pss : Piles} {rl : List Int} (t : ToldR pss rl) : rl.length = sumN pss.length (fun i => sizeAt pss (i : Int) - named pss (i : Int)) + (lawHeads (lackArr pss) pss.length).length := by
  rw [t.1.length_eq, List.length_append, lackL_len pss _ (Nat.le_refl _)]
theorem ToldR.least {pss : Piles} {rl : List Int} (hn : NamesOk pss) (t : ToldR pss rl) {row : List Int} (hr : ∀ x ∈ row, InN pss x) (h : (runP pss row).1.length = total pss) : rl.length ≤ row.length := by
  rw [t.len]
  exact takes_few hn hr h
theorem ToldR.fewest {pss : Piles} {rl : List Int} (hn : NamesOk pss) (t : ToldR pss rl) : (lackP pss).sum + ((ringsW (lackArr pss)).length : Nat) = rl.length := by
  have h1 := (rings_heads (lackArr_ok hn)).length_eq
  rw [List.length_map, lackArr_len] at h1
  have h2 := lackP_sumN pss pss.length (Nat.le_refl _)
  rw [List.take_of_length_le (by rw [lackP_len]; exact Nat.le_refl _)] at h2
  rw [h2, t.len, h1]
  omega
theorem ToldR.best {pss : Piles} {rl out : List Int} (hn : NamesOk pss) (t : ToldR pss rl) (h : out.Perm ((ringsW (lackArr pss)).map headI ++ lackL pss pss.length)) (hs : out.Pairwise (fun x y => x ≤ y)) : out = rl := by
  refine List.Perm.eq_of_pairwise (fun a b _ _ h1 h2 => Int.le_antisymm h1 h2) hs t.2 ?_
  refine h.trans (List.Perm.trans ?_ t.1.symm)
  have h1 := rings_heads (lackArr_ok hn)
  rw [lackArr_len] at h1
  exact (h1.append_right _).trans List.perm_append_comm
theorem total_sumN (pss : Piles) : total pss = sumN pss.length fun i => sizeAt pss (i : Int) := by
  have h1 := left_sumN pss (List.replicate pss.length 0) List.length_replicate
  rw [left_zero] at h1
  rw [h1]
  refine sumN_congr _ fun i hi => ?_
  rw [List.getD_eq_getElem?_getD (l := List.replicate _ _), List.getElem?_replicate, if_pos hi]
  show (pss.getD i []).length - 0 = _
  unfold sizeAt pileAt
  rw [Int.toNat_natCast]; omega
theorem sumN_mono {f : Nat → Nat} {m n : Nat} (h : m ≤ n) : sumN m f ≤ sumN n f := by
  obtain ⟨d, rfl⟩ : ∃ d, n = m + d := ⟨n - m, by omega⟩
  clear h
  induction d with
  | zero => exact Nat.le_refl _
  | succ d ih => exact Nat.le_trans ih (Nat.le_add_right _ _)
theorem lackL_short (pss : Piles) {m : Nat} (h : m ≤ pss.length) : (lackL pss m).length ≤ total pss := by
  rw [lackL_len pss m h, total_sumN]
  exact Nat.le_trans (sumN_le m fun i _ => Nat.sub_le _ _) (sumN_mono h)
theorem ToldR.short {pss : Piles} {rl : List Int} (hn : NamesOk pss) (t : ToldR pss rl) : rl.length ≤ total pss := by
  have hok := lackArr_ok hn
  rw [t.len, ← sumN_count pss.length (lawHeads (lackArr pss) pss.length) fun x hx => (lawHeads_mem.mp hx).1, ← sumN_add]
  have e := total_sumN pss
  rw [e]
  refine sumN_le _ fun i hi => ?_
  have hv : InN pss (i : Int) := ⟨by omega, by omega⟩
  by_cases q : (i : Int) ∈ lawHeads (lackArr pss) pss.length
  · rw [List.Nodup.count (lawHeads_nodup _ _), if_pos q]
    have hl := isL_of (lawHeads_mem.mp q).2
    have hin : ∀ x, Reach (lackArr pss) (i : Int) x → InN pss x := fun x ⟨k, hk⟩ => by
      have := it_in (S := fun y => 0 ≤ y ∧ y < (lackArr pss).length) (fun x y _ hy => nx_in hok hy) k (by rw [lackArr_len]; exact hv) hk
      rw [lackArr_len] at this
      exact this
    have last : ∀ x, Reach (lackArr pss) (i : Int) x → ∃ w, nx (lackArr pss) x = some w ∧ (pileAt pss x).getLast? = some w ∧ named pss x ≤ sizeAt pss x := fun x hx => by
      cases e : nx (lackArr pss) x with
      | none => exact absurd e ((hl.1.of hx).some 1)
      | some w =>
        rw [lack_nx (hin x hx)] at e
        by_cases z : ((sizeAt pss x : Nat) : Int) < (named pss x : Nat)
        · rw [if_pos z] at e; cases e
        · rw [if_neg z] at e; exact ⟨w, rfl, e, by omega⟩
    obtain ⟨k, k0, hk⟩ := hl.1
    obtain ⟨j, rfl⟩ : ∃ j, k = j + 1 := ⟨k - 1, by omega⟩
    have hk' : (it (lackArr pss) j (i : Int)).bind (nx (lackArr pss)) = some (i : Int) := hk
    cases ej : it (lackArr pss) j (i : Int) with
    | none => rw [ej] at hk'; cases hk'
    | some y =>
      rw [ej] at hk'
      obtain ⟨w, h1, h2, _⟩ := last y ⟨j, ej⟩
      rw [show nx (lackArr pss) y = some (i : Int) from hk'] at h1
      cases h1
      have p1 := last_named (hin y ⟨j, ej⟩) h2
      obtain ⟨_, _, _, p2⟩ := last _ .refl
      omega
  · rw [List.count_eq_zero.mpr q]; omega
end VL
-- P4
set_option maxHeartbeats 1000000
namespace VL
open PySem L2
theorem atI_getD {l : List Int} {m : Nat} (h : m < l.length) : L2.atI (l.map D.int) (m : Int) = some (.int (l.getD m 0)) := by
  rw [atI_pos _ _ (by omega), List.getElem?_map, Int.toNat_natCast, List.getElem?_eq_getElem h, List.getD_eq_getElem?_getD, List.getElem?_eq_getElem h]
  rfl
theorem atI_getDI {l : List Int} {v : Int} (h0 : 0 ≤ v) (h : v < l.length) : L2.atI (l.map D.int) v = some (.int (l.getD v.toNat 0)) := by
  obtain ⟨m, rfl⟩ := Int.eq_ofNat_of_zero_le h0
  exact atI_getD (by omega)
def SeqO (o : OD) (ns : List Int) : Prop := (∃ d b, o = .st d ∧ d.itm = some (b, ns.map .int)) ∨ o = .lst ((ns.map .int).map .st)
theorem SeqO.lst (ns : List Int) : SeqO (.lst ((ns.map .int).map .st)) ns := .inr rfl
theorem SeqO.st {d : D} {b : Bool} {ns : List Int} (h : d.itm = some (b, ns.map .int)) : SeqO (.st d) ns := .inl ⟨d, b, rfl, h⟩
theorem frz_ints (ns : List Int) : frz (.lst ((ns.map D.int).map .st)) = .lst (ns.map .int) := congrArg D.lst (frzL_st _)
def kids : D → List D
  | .tup ds => ds
  | .lst ds => ds
  | _ => []
def lvlN (d : D) : Nat → List D
  | 0 => [d]
  | m + 1 => (lvlN d m).flatMap kids
inductive PlainD : D → Prop where
  | non : PlainD .non
  | bl (b : Bool) : PlainD (.bl b)
  | int (i : Int) : PlainD (.int i)
  | str (x : Str) : PlainD (.str x)
  | tup (ds : List D) : PlainD (.tup ds)
  | lst (ds : List D) : PlainD (.lst ds)
inductive LeafD : D → Prop where
  | non : LeafD .non
  | bl (b : Bool) : LeafD (.bl b)
  | int (i : Int) : LeafD (.int i)
  | str (x : Str) : LeafD (.str x)
structure SameOk (d : D) : Prop where
  few : ∀ m, m ≤ 9 → (lvlN d m).length ≤ 100000
  pl : ∀ m, m ≤ 9 → ∀ x ∈ lvlN d m, PlainD x
  fin : lvlN d 9 = []
def prD (x : D) : D := .tup [x, x]
theorem lvl_nil {d : D} {m : Nat} (h : lvlN d m = []) : ∀ k, lvlN d (m + k) = []
  | 0 => h
  | k + 1 => by show (lvlN d (m + k)).flatMap kids = []; rw [lvl_nil h k]; rfl
theorem flat_leaf : ∀ {l : List D}, (∀ x ∈ l, LeafD x) → l.flatMap kids = []
  | [], _ => rfl
  | x :: l, h => by
    rw [List.flatMap_cons, flat_leaf fun y hy => h y (List.mem_cons_of_mem _ hy)]
    cases h x List.mem_cons_self <;> rfl
theorem LeafD.plain {d : D} (h : LeafD d) : PlainD d := by
  cases h <;> constructor
theorem SameOk.leaf {d : D} (h : LeafD d) : SameOk d := by
  have l1 : lvlN d 1 = [] := flat_leaf (l := [d]) fun x hx => by rw [List.mem_singleton.mp hx]; exact h
  have e : ∀ m, 1 ≤ m → lvlN d m = [] := fun m hm => by have := lvl_nil l1 (m - 1); rw [show 1 + (m - 1) = m by omega] at this; exact this
  refine ⟨fun m _ => ?_, fun m _ x hx => ?_, e 9 (by decide)⟩
  · by_cases z : 1 ≤ m
    · rw [e m z]; exact Nat.zero_le _
    · rw [show m = 0 by omega]; show 1 ≤ 100000; decide
  · by_cases z : 1 ≤ m
    · rw [e m z] at hx; cases hx
    · rw [show m = 0 by omega] at hx
      rw [List.mem_singleton.mp hx]; exact h.plain
theorem SameOk.ints (ns : List Int) (hl : ns.length ≤ 100000) : SameOk (tupI ns) := by
  have l1 : lvlN (tupI ns) 1 = ns.map .int := by show ([tupI ns] : List D).flatMap kids = _; rw [List.flatMap_cons, List.flatMap_nil, List.append_nil]; rfl
  have l2 : lvlN (tupI ns) 2 = [] := by
    show (lvlN (tupI ns) 1).flatMap kids = []
    rw [l1]
    refine flat_leaf fun x hx => ?_
    obtain ⟨i, _, rfl⟩ := List.mem_map.mp hx
    exact .int i
  have e : ∀ m, 2 ≤ m → lvlN (tupI ns) m = [] := fun m hm => by have := lvl_nil l2 (m - 2); rw [show 2 + (m - 2) = m by omega] at this; exact this
  refine ⟨fun m _ => ?_, fun m _ x hx => ?_, e 9 (by decide)⟩
  · by_cases z : 2 ≤ m
    · rw [e m z]; exact Nat.zero_le _
    · by_cases z1 : m = 1
      · rw [z1, l1, List.length_map]; exact hl
      · rw [show m = 0 by omega]; show 1 ≤ 100000; decide
  · by_cases z : 2 ≤ m
    · rw [e m z] at hx; cases hx
    · by_cases z1 : m = 1
      · rw [z1, l1] at hx
        obtain ⟨i, _, rfl⟩ := List.mem_map.mp hx
        exact .int i
      · rw [show m = 0 by omega] at hx
        rw [List.mem_singleton.mp hx]; exact .tup _
def erC : Er → Str
  | .empty => "Empty"
  | .stations => "TooMany"
  | .pile => "TooMany"
  | .slips => "TooMany"
  | .couriers => "TooMany"
  | .bad _ => "BadStation"
def erF : Er → List (Str × D)
  | .empty => [("what", .str "stations")]
  | .stations => [("limit", .int 40), ("what", .str "stations")]
  | .pile => [("limit", .int 60), ("what", .str "pile")]
  | .slips => [("limit", .int 300), ("what", .str "slips")]
  | .couriers => [("limit", .int 40), ("what", .str "couriers")]
  | .bad x => [("station", .int x)]
def erA : Er → List D
  | .empty => [.str "stations"]
  | .stations => [.str "stations", .int 40]
  | .pile => [.str "pile", .int 60]
  | .slips => [.str "slips", .int 300]
  | .couriers => [.str "couriers", .int 40]
  | .bad x => [.int x]
def erR (e : Er) : D := .tup [.str (erC e), .tup (erA e)]
theorem erE_eq {K : Fr} {E : Addr → List (Str × D) → List OD → Prop} {os : List OD} {e : Er} : erE K E os e = E (He.ga K (erC e)) (erF e) os := by
  cases e <;> rfl
theorem SameOk.er (e : Er) : SameOk (erR e) := by
  have hl : (erA e).length ≤ 2 := by cases e <;> simp [erA]
  have hf : ∀ x ∈ erA e, LeafD x := fun x hx => by
    cases e <;> simp only [erA, List.mem_cons, List.not_mem_nil, or_false] at hx
    all_goals first
      | (rcases hx with rfl | rfl <;> constructor)
      | (subst hx; constructor)
  have l1 : lvlN (erR e) 1 = [.str (erC e), .tup (erA e)] := rfl
  have l2 : lvlN (erR e) 2 = erA e := by
    show ([.str (erC e), .tup (erA e)] : List D).flatMap kids = _
    rw [List.flatMap_cons, List.flatMap_cons, List.flatMap_nil, List.append_nil]; rfl
  have l3 : lvlN (erR e) 3 = [] := by show (lvlN (erR e) 2).flatMap kids = []; rw [l2]; exact flat_leaf hf
  have en : ∀ m, 3 ≤ m → lvlN (erR e) m = [] := fun m hm => by have := lvl_nil l3 (m - 3); rw [show 3 + (m - 3) = m by omega] at this; exact this
  refine ⟨fun m _ => ?_, fun m _ x hx => ?_, en 9 (by decide)⟩
  · by_cases z : 3 ≤ m
    · rw [en m z]; exact Nat.zero_le _
    · by_cases z2 : m = 2
      · rw [z2, l2]; omega
      · by_cases z1 : m = 1
        · rw [z1, l1]; show 2 ≤ 100000; decide
        · rw [show m = 0 by omega]; show 1 ≤ 100000; decide
  · by_cases z : 3 ≤ m
    · rw [en m z] at hx; cases hx
    · by_cases z2 : m = 2
      · rw [z2, l2] at hx; exact (hf x hx).plain
      · by_cases z1 : m = 1
        · rw [z1, l1] at hx
          simp only [List.mem_cons, List.not_mem_nil, or_false] at hx
          rcases hx with rfl | rfl <;> constructor
        · rw [show m = 0 by omega] at hx
          rw [List.mem_singleton.mp hx]; exact .tup _
end VL
-- P5
set_option maxHeartbeats 1000000
namespace VL
open PySem PySem.Spec L2
def PyN (n : Nat) (d : D) (p : PyData) : Prop := d.py = some p ∧ p.canLay0 = true ∧ p.depth ≤ n
def PyLN (n : Nat) (ds : List D) (l : List PyData) : Prop := pyL ds = some l ∧ PyData.canLayAll0 l = true ∧ PyData.depthAll l ≤ n
theorem PyN.int (n : Nat) (i : Int) : PyN n (.int i) (.int i) := ⟨rfl, by simp [PyData.canLay0], by simp [PyData.depth]⟩
theorem PyN.bl (n : Nat) (i : Bool) : PyN n (.bl i) (.bool i) := ⟨rfl, by simp [PyData.canLay0], by simp [PyData.depth]⟩
theorem PyN.non (n : Nat) : PyN n .non .none := ⟨rfl, by simp [PyData.canLay0], by simp [PyData.depth]⟩
theorem PyN.str (n : Nat) (x : Str) (h : PyData.canLay0 (.str x) = true) : PyN n (.str x) (.str x) := ⟨rfl, h, by simp [PyData.depth]⟩
theorem PyLN.nil (n : Nat) : PyLN n [] [] := ⟨rfl, by simp [PyData.canLayAll0], by simp [PyData.depthAll]⟩
theorem PyLN.cons {n : Nat} {d : D} {p : PyData} {ds : List D} {l : List PyData} (h : PyN n d p) (q : PyLN n ds l) : PyLN n (d :: ds) (p :: l) := by
  obtain ⟨h1, h2, h3⟩ := h
  obtain ⟨q1, q2, q3⟩ := q
  refine ⟨?_, by simp [PyData.canLayAll0, h2, q2], by simp only [PyData.depthAll]; omega⟩
  show (match D.py d, pyL ds with
    | some p, some l => some (p :: l)
    | _, _ => none) = _
  rw [h1, q1]
theorem PyLN.tup {n : Nat} {ds : List D} {l : List PyData} (q : PyLN n ds l) : PyN (n + 1) (.tup ds) (.tuple l) := by
  obtain ⟨q1, q2, q3⟩ := q
  refine ⟨?_, by simpa [PyData.canLay0] using q2, by simp only [PyData.depth]; omega⟩
  show (match pyL ds with
    | some l => some (PyData.tuple l)
    | none => none) = _
  rw [q1]
theorem PyLN.lst {n : Nat} {ds : List D} {l : List PyData} (q : PyLN n ds l) : PyN (n + 1) (.lst ds) (.list l) := by
  obtain ⟨q1, q2, q3⟩ := q
  refine ⟨?_, by simpa [PyData.canLay0] using q2, by simp only [PyData.depth]; omega⟩
  show (match pyL ds with
    | some l => some (PyData.list l)
    | none => none) = _
  rw [q1]
theorem PyLN.map {α : Type} {n : Nat} (f : α → D) (g : α → PyData) : ∀ (xs : List α), (∀ x ∈ xs, PyN n (f x) (g x)) → PyLN n (xs.map f) (xs.map g)
  | [], _ => .nil n
  | x :: xs, h => .cons (h x List.mem_cons_self) (PyLN.map f g xs fun y hy => h y (List.mem_cons_of_mem _ hy))
theorem PyLN.ints (n : Nat) (ns : List Int) : PyLN n (ns.map .int) (ns.map .int) := .map _ _ ns fun x _ => .int n x
theorem shaped_of {n : Nat} {d : D} {p : PyData} (h : PyN n d p) (hn : n ≤ 64) : SeqAt.shaped p = true :=
  Bool.and_eq_true_iff.mpr ⟨h.2.1, decide_eq_true (Nat.le_trans h.2.2 hn)⟩
theorem gEqA_of {a b : D} {p q : PyData} {n : Nat} {Q : D → Prop} (ha : PyN n a p) (hb : PyN n b q) (hn : n ≤ 64) (hs : (∃ xs, a = .tup xs) ∨ ∃ xs, a = .lst xs) (h : Q (.bl (PyData.eqv p q))) : gEqA a b Q := by
  have key : ∃ p q, a.py = some p ∧ b.py = some q ∧ SeqAt.shaped p = true ∧ SeqAt.shaped q = true ∧ Q (.bl (PyData.eqv p q)) := ⟨p, q, ha.1, hb.1, shaped_of ha hn, shaped_of hb hn, h⟩
  rcases hs with ⟨xs, rfl⟩ | ⟨xs, rfl⟩ <;> exact key
theorem gEqA_refl {a : D} {p : PyData} {n : Nat} {Q : D → Prop} (ha : PyN n a p) (hn : n ≤ 64) (hs : (∃ xs, a = .tup xs) ∨ ∃ xs, a = .lst xs) (h : Q (.bl true)) : gEqA a a Q :=
  gEqA_of ha ha hn hs (by rw [SeqAt.eqv_refl p ha.2.1]; exact h)
theorem pyL_nil {ds : List D} : pyL ds = some [] → ds = [] := fun h => by
  cases ds with
  | nil => rfl
  | cons d r =>
    have h' : (match D.py d, pyL r with
      | some p, some l => some (p :: l)
      | _, _ => none) = some [] := h
    split at h' <;> cases h'
theorem pyL_len : ∀ {ds : List D} {l : List PyData}, pyL ds = some l → l.length = ds.length
  | [], l, h => by cases h; rfl
  | d :: r, l, h => by
    have h' : (match D.py d, pyL r with
      | some p, some l => some (p :: l)
      | _, _ => none) = some l := h
    split at h'
    · rename_i p l2 h1 h2
      cases h'
      rw [List.length_cons, List.length_cons, pyL_len h2]
    · cases h'
theorem gEqA_nilL {ds : List D} {l : List PyData} {n : Nat} {Q : D → Prop} (ha : PyLN n ds l) (hn : n ≤ 63) (h : Q (.bl (decide (ds = [])))) : gEqA (.lst ds) (.lst []) Q := by
  refine gEqA_of ha.lst ((PyLN.nil n).lst) (by omega) (.inr ⟨_, rfl⟩) ?_
  have hl := pyL_len ha.1
  have : PyData.eqv (.list l) (.list []) = decide (ds = []) := by
    rw [PyData.eqv]
    cases l with
    | nil => rw [decide_eq_true (List.eq_nil_of_length_eq_zero (by simpa using hl.symm))]; rfl
    | cons x l => rw [decide_eq_false (fun e => by rw [e] at hl; simp at hl)]; rfl
  rw [this]; exact h
theorem gEqA_nilT {ds : List D} {l : List PyData} {n : Nat} {Q : D → Prop} (ha : PyLN n ds l) (hn : n ≤ 63) (h : Q (.bl (decide (ds = [])))) : gEqA (.tup ds) (.tup []) Q := by
  refine gEqA_of ha.tup ((PyLN.nil n).tup) (by omega) (.inl ⟨_, rfl⟩) ?_
  have hl := pyL_len ha.1
  have : PyData.eqv (.tuple l) (.tuple []) = decide (ds = []) := by
    rw [PyData.eqv]
    cases l with
    | nil => rw [decide_eq_true (List.eq_nil_of_length_eq_zero (by simpa using hl.symm))]; rfl
    | cons x l => rw [decide_eq_false (fun e => by rw [e] at hl; simp at hl)]; rfl
  rw [this]; exact h
end VL
-- P6
set_option maxHeartbeats 1000000
namespace VL
open PySem PySem.Spec L2
def lstI (ns : List Int) : D := .lst (ns.map .int)
theorem itm_lstI (ns : List Int) : (lstI ns).itm = some (false, ns.map .int) := rfl
def pilesL (pss : Piles) : D := .lst (pss.map lstI)
theorem rowsL : ∀ (pss : Piles), RowsD (pss.map lstI) pss
  | [] => .nil
  | a :: l => .cons (b := false) rfl (rowsL l)
theorem pilesL_ok (pss : Piles) : PilesD (pilesL pss) pss := ⟨false, _, rfl, rowsL pss⟩
theorem getD_lstI {pss : List (List Int)} {m : Nat} {ns : List Int} (h : pss[m]? = some ns) : (pss.map lstI).getD m .non = lstI ns := getD_of (by rw [List.getElem?_map, h]; rfl)
theorem frzL_lists : ∀ (pss : Piles), frzL (pss.map fun p => OD.lst ((p.map D.int).map .st)) = pss.map lstI
  | [] => rfl
  | p :: l => by
    show frz (.lst ((p.map D.int).map .st)) :: frzL (l.map _) = lstI p :: l.map lstI
    rw [frzL_lists l, frz_ints]; rfl
structure RowsK (pss : Piles) (rl : List Int) (k : Nat) (rows : List (List Int)) : Prop where
  inn : ∀ r ∈ rows, r.length = k ∧ ∀ x ∈ r, InN pss x
  has : k ≤ rl.length → rl.take k ∈ rows
  few : rows.length ≤ 4 ^ k
def ext1 (pss : Piles) (r : List Int) (m : Nat) : List (List Int) := (((List.range m).map fun (i : Nat) => (i : Int)).filter fun w => decide (r = []) || decide (r.getLastD 0 ≤ w)).map fun w => r ++ [w]
theorem ext1_succ (pss : Piles) (r : List Int) (m : Nat) : ext1 pss r (m + 1) = ext1 pss r m ++ (if (decide (r = []) || decide (r.getLastD 0 ≤ m)) = true then [r ++ [(m : Int)]] else []) := by
  unfold ext1
  rw [List.range_succ, List.map_append, List.filter_append, List.map_append]
  congr 1
  simp only [List.map_cons, List.map_nil, List.filter_cons, List.filter_nil]
  split <;> rfl
theorem ext1_len (pss : Piles) (r : List Int) (m : Nat) : (ext1 pss r m).length ≤ m := by
  unfold ext1
  rw [List.length_map]
  refine Nat.le_trans (List.length_filter_le _ _) ?_
  rw [List.length_map, List.length_range]; exact Nat.le_refl _
theorem flat_len4 (pss : Piles) (h4 : pss.length ≤ 4) : ∀ rows : List (List Int), (rows.flatMap fun r => ext1 pss r pss.length).length ≤ rows.length * 4
  | [] => Nat.zero_le _
  | r :: rows => by
    have := flat_len4 pss h4 rows
    have := ext1_len pss r pss.length
    rw [List.flatMap_cons, List.length_append, List.length_cons]
    omega
theorem RowsK.step {pss : Piles} {rl : List Int} {k : Nat} {rows : List (List Int)} (h4 : pss.length ≤ 4) (t : ToldR pss rl) (h : RowsK pss rl k rows) : RowsK pss rl (k + 1) (rows.flatMap fun r => ext1 pss r pss.length) where
  inn := fun r hr => by
    obtain ⟨s, hs, h2⟩ := List.mem_flatMap.mp hr
    obtain ⟨w, hw, rfl⟩ := List.mem_map.mp h2
    obtain ⟨h3, _⟩ := List.mem_filter.mp hw
    obtain ⟨i, hi, rfl⟩ := List.mem_map.mp h3
    obtain ⟨a, b⟩ := h.inn s hs
    refine ⟨by simp [a], fun x hx => ?_⟩
    rcases List.mem_append.mp hx with q | q
    · exact b x q
    · rw [List.mem_singleton.mp q]
      have := List.mem_range.mp hi
      exact ⟨by omega, by omega⟩
  has := fun hk => by
    obtain ⟨w, hw⟩ := get_lt (l := rl) (m := k) (by omega)
    have hwn := t.inn w (List.mem_of_getElem? hw)
    refine List.mem_flatMap.mpr ⟨rl.take k, h.has (by omega), List.mem_map.mpr ⟨w, List.mem_filter.mpr ⟨List.mem_map.mpr ⟨w.toNat, List.mem_range.mpr (by have := hwn.2; have := hwn.1; omega), by have := hwn.1; omega⟩, ?_⟩, (take_snoc hw).symm⟩⟩
    by_cases z : k = 0
    · subst z; simp
    · have hlast : (rl.take k).getLastD 0 = rl.getD (k - 1) 0 := by
        rw [List.getLastD_eq_getLast?, List.getLast?_eq_getElem?, List.length_take, List.getD_eq_getElem?_getD, show min k rl.length - 1 = k - 1 by omega, List.getElem?_take, if_pos (by omega)]
      rw [hlast]
      have hp := List.pairwise_iff_getElem.mp t.2 (k - 1) k (by omega) (by omega) (by omega)
      rw [List.getD_eq_getElem?_getD, List.getElem?_eq_getElem (by omega)]
      have : rl[k]'(by omega) = w := (List.getElem?_eq_some_iff.mp hw).2
      rw [this] at hp
      simp only [Option.getD_some, Bool.or_eq_true, decide_eq_true_eq]
      exact .inr hp
  few := by
    have := flat_len4 pss h4 rows
    have := h.few
    rw [Nat.pow_succ]
    omega
end VL
namespace VL
open PySem PySem.Spec L2
def ALLX : List Str := ["BadText", "Malformed", "BadStation", "BadPlace", "BadNumber", "TooMany", "Empty", "Unframed", "NotPack", "Unlike", "Stuck", "NothingBack", "LeftOver", "NotTrail", "Blocked", "Unnamed", "Opened", "Missing", "NotLocal", "NoPlan", "Doubled", "BadCard", "Unknown", "NotEnd"]
theorem allx_one : ∀ x ∈ ALLX, ALLX.filter (fun y => x == y) = [x] := by decide
theorem allx_len : ALLX.length = 24 := rfl
def chkDeal (pss : List (List Int)) (starts : List Int) : Option Er := match chkPiles pss with
  | some e => some e
  | none => chkRow pss.length 40 .couriers starts
def refD (e : Er) : D := .tup [.int 0, erR e]
def okD (d : D) : D := .tup [.int 1, d]
end VL
namespace VL
open PySem PySem.Spec PyProof.Rows L2
section
variable {X : Cx} {G : Gh} {F : Fx} {e : Expr} {es : List Expr} {te : TE} {sa : TV} {tA : TA} {sL : TVL} {p pos : Pos} {a C c : Addr} {fs : List (Str × D)} {Ce : CtrE}
theorem v_isXP (h : Hx X G a C fs) (T : ExcC X.K C) (hg : Gl X "isinstance") (hm : X.mg "isinstance" = none) (ha : VA X G F (e :: es) tA sL)
    (he : starEach (e :: es) X.env = (false, eval e X.env) :: starEach es X.env := by rfl) (hpl : (backTo pos (starEach es X.env)).any (·.1) = false := by rfl) : VE X G F (.Call (.Name "isinstance" p) (e :: es) [] pos) (tePack X.K G F (sIsX X.K a C sL)) (sIsX X.K a C sL) :=
  (v_isX (p := p) (pos := pos) h T hg hm ha he hpl).choose_spec.pack
theorem v_xfP {f : Str} (h : Hx X G a C fs) (T : XfC X.K C) (hno : PySem.W.findIn X.K (.ref C) f = some none) (he : VE X G F e te sa) (hb : attributeBase e f X.env (eval e X.env) = eval e X.env := by rfl) : VE X G F (.Attribute e f pos) (tePack X.K G F (sXf a f fs sa)) (sXf a f fs sa) :=
  (v_xf (pos := pos) h T hno he hb).choose_spec.pack
theorem v_callEP {x : Str} {k : Nat} {ps : List Str} (h : Hx X G a c fs) (O : OkE X.prog X.w X.K X.mg X.base x ps k Ce) (hr : L2H.RoomH k X.A) (hg : Gl X x) (ha : VA X G F (e :: es) tA sL)
    (hdb : (x == ("__debug__" : Str)) = false := by decide) (he : starEach (e :: es) X.env = (false, eval e X.env) :: starEach es X.env := by rfl) (hpl : (backTo pos (starEach es X.env)).any (·.1) = false := by rfl) :
    VE X G F (.Call (.Name x p) (e :: es) [] pos) (tePack X.K G F (sCallE a c fs Ce sL)) (sCallE a c fs Ce sL) :=
  (v_callE (p := p) (pos := pos) h O hr hg ha hdb he hpl).choose_spec.pack
end
end VL
theorem VL.roomH_units {k : Nat} {A : PySem.Around} (r : L2H.RoomH k A) : A.units + 64 < PySem.cLine := by have := r.un; omega
namespace VL
open PySem PySem.Spec L2
theorem atI_map {α : Type} {f : α → D} {l : List α} {m : Nat} {x : α} (h : l[m]? = some x) : L2.atI (l.map f) (m : Int) = some (f x) := by
  rw [atI_pos _ _ (by omega), List.getElem?_map, Int.toNat_natCast, h]; rfl
end VL
namespace VL
open PySem PySem.Spec L2
def Told (c : Option Er) (P : D → Prop) (ans : D) : Prop := match c with
  | some er => ans = refD er
  | none => ∃ d, ans = okD d ∧ P d
def AskA (w : Int) (pss : Piles) (starts : List Int) (ans : D) : Prop :=
  (w = 0 → Told (chkDeal pss []) (fun d => d = .int ((lackP pss).sum + ((ringsW (lackArr pss)).length : Nat))) ans) ∧
  (w = 1 → Told (chkDeal pss []) (fun d => ∃ out : List Int, out.Perm ((ringsW (lackArr pss)).map headI ++ lackL pss pss.length) ∧ out.Pairwise (fun x y => x ≤ y) ∧ d = tupI out) ans) ∧
  (w = 2 → Told (chkDeal pss starts) (fun d => d = .bl (decide ((runP pss starts).1.length = total pss))) ans)
end VL
theorem VL.roomMark {j : Nat} {B : PySem.Around} (q : L2.Room j B) (x : Option PySem.Value) : L2H.RoomH j (B.mark x) := L2H.RoomH.mk q.dp q.un
namespace VL
open PySem PySem.Spec L2
theorem res_some {K : Fr} {E : Addr → List (Str × D) → List OD → Prop} {os : List OD} {q : Prop} {er : Er} : res K E os q (some er) = E (He.ga K (erC er)) (erF er) os := erE_eq
theorem res_none {K : Fr} {E : Addr → List (Str × D) → List OD → Prop} {os : List OD} {q : Prop} : res K E os q none = q := rfl
end VL
-- P7
set_option maxHeartbeats 1000000
namespace VL
open PySem PySem.Spec L2
theorem emod_cover {n : Nat} (hn : 1 ≤ n) (v0 : Int) {y : Nat} (hy : y < n) : ∃ i : Nat, i < n ∧ (v0 + (i : Int)) % (n : Int) = y := by
  have hp : (0 : Int) < n := by omega
  obtain ⟨a, b⟩ := emodB ((y : Int) - v0) hp
  refine ⟨(((y : Int) - v0) % (n : Int)).toNat, by omega, ?_⟩
  rw [show (((((y : Int) - v0) % (n : Int)).toNat : Nat) : Int) = ((y : Int) - v0) % (n : Int) by omega, Int.add_emod_emod, show v0 + ((y : Int) - v0) = (y : Int) by omega]
  exact Int.emod_eq_of_lt (by omega) (by omega)
structure Seat (n : Nat) (ss : List Int) (v0 : Int) (j : Nat) (v : Int) : Prop where
  inn : 0 ≤ v ∧ v < n
  or_ : ss.count v < 60 ∨ (v = (v0 + (j : Int)) % (n : Int) ∧ ∀ i : Nat, i < j → 60 ≤ ss.count ((v0 + (i : Int)) % (n : Int)))
theorem Seat.zero {n : Nat} {ss : List Int} {v0 : Int} (h : 0 ≤ v0 ∧ v0 < n) : Seat n ss v0 0 v0 where
  inn := h
  or_ := .inr ⟨by rw [show v0 + ((0 : Nat) : Int) = v0 by omega, Int.emod_eq_of_lt h.1 h.2], fun i hi => by omega⟩
theorem Seat.stay {n : Nat} {ss : List Int} {v0 v : Int} {j : Nat} (s : Seat n ss v0 j v) (h : ss.count v < 60) : Seat n ss v0 (j + 1) v := ⟨s.inn, .inl h⟩
theorem Seat.go {n : Nat} {ss : List Int} {v0 v : Int} {j : Nat} (hn : 1 ≤ n) (s : Seat n ss v0 j v) (h : 60 ≤ ss.count v) : Seat n ss v0 (j + 1) ((v + 1) % (n : Int)) where
  inn := emodB _ (by omega)
  or_ := by
    rcases s.or_ with q | ⟨q1, q2⟩
    · omega
    · refine .inr ⟨?_, fun i hi => ?_⟩
      · rw [q1, Int.emod_add_emod]
        congr 1
        omega
      · by_cases e : i = j
        · subst e; rw [← q1]; exact h
        · exact q2 i (by omega)
theorem Seat.end_ {n : Nat} {ss : List Int} {v0 v : Int} (hn : 1 ≤ n) (hs : ∀ x ∈ ss, 0 ≤ x ∧ x < n) (hl : ss.length < 60 * n) (s : Seat n ss v0 n v) : ss.count v < 60 := by
  rcases s.or_ with q | ⟨q1, q2⟩
  · exact q
  · exfalso
    have h1 := sumN_count n ss hs
    have h2 : sumN n (fun _ => 60) ≤ sumN n fun i => ss.count (i : Int) := sumN_le n fun y hy => by
      obtain ⟨i, hi, e⟩ := emod_cover hn v0 hy
      have := q2 i hi
      rw [e] at this
      exact this
    have h3 : ∀ m, sumN m (fun _ => 60) = 60 * m := fun m => by
      induction m with
      | zero => rfl
      | succ m ih => show sumN m _ + 60 = _; rw [ih]; omega
    rw [h3] at h2
    omega
def dealS (n : Nat) (os ss : List Int) : Nat → Piles
  | 0 => List.replicate n []
  | k + 1 => (dealS n os ss k).set (os.getD k 0).toNat ((dealS n os ss k).getD (os.getD k 0).toNat [] ++ [ss.getD k 0])
theorem dealS_len (n : Nat) (os ss : List Int) : ∀ k, (dealS n os ss k).length = n
  | 0 => List.length_replicate
  | k + 1 => by
    show ((dealS n os ss k).set _ _).length = n
    rw [List.length_set]; exact dealS_len n os ss k
theorem total_set : ∀ {P : Piles} {i : Nat} {p : List Int} {x : Int}, P[i]? = some p → total (P.set i (p ++ [x])) = total P + 1
  | [], _, _, _, h => by simp at h
  | q :: P, 0, p, x, h => by
    simp at h; subst h
    show (q ++ [x]).length + total P = q.length + total P + 1
    rw [List.length_append, List.length_singleton]; omega
  | q :: P, i + 1, p, x, h => by
    have := total_set (x := x) (show P[i]? = some p by simpa using h)
    show q.length + total (P.set i (p ++ [x])) = q.length + total P + 1
    omega
structure DealOk (n : Nat) (os ss : List Int) (k : Nat) : Prop where
  names : NamesOk (dealS n os ss k)
  tot : total (dealS n os ss k) = k
  cnt : ∀ (i : Nat) (p : List Int), (dealS n os ss k)[i]? = some p → p.length = (os.take k).count (i : Int)
theorem dealS_ok {n : Nat} {os ss : List Int} (ho : ∀ x ∈ os, 0 ≤ x ∧ x < n) (hs : ∀ x ∈ ss, 0 ≤ x ∧ x < n) : ∀ k, k ≤ os.length → k ≤ ss.length → DealOk n os ss k
  | 0, _, _ => {
    names := fun p hp x hx => by rw [(List.mem_replicate.mp hp).2] at hx; cases hx
    tot := by
      show ((List.replicate n ([] : List Int)).map List.length).sum = 0
      rw [List.map_replicate]
      induction n with
      | zero => rfl
      | succ m ih =>
        rw [List.replicate_succ, List.sum_cons]
        have z : ∀ m, (List.replicate m (([] : List Int).length)).sum = 0 := fun m => by
          induction m with
          | zero => rfl
          | succ m ih => rw [List.replicate_succ, List.sum_cons, ih]; rfl
        rw [z]; rfl
    cnt := fun i p h => by rw [(List.mem_replicate.mp (List.mem_of_getElem? h)).2]; rfl }
  | k + 1, h1, h2 => by
    have i := dealS_ok ho hs k (by omega) (by omega)
    have hlen := dealS_len n os ss k
    obtain ⟨o, hoo⟩ := get_lt (l := os) (m := k) (by omega)
    obtain ⟨s, hss⟩ := get_lt (l := ss) (m := k) (by omega)
    obtain ⟨o0, o1⟩ := ho o (List.mem_of_getElem? hoo)
    have hsr := hs s (List.mem_of_getElem? hss)
    obtain ⟨q, hq⟩ := get_lt (l := dealS n os ss k) (m := o.toNat) (by omega)
    have e : dealS n os ss (k + 1) = (dealS n os ss k).set o.toNat (q ++ [s]) := by
      show (dealS n os ss k).set (os.getD k 0).toNat ((dealS n os ss k).getD (os.getD k 0).toNat [] ++ [ss.getD k 0]) = _
      rw [getD_some hoo, getD_some hss, List.getD_eq_getElem?_getD, hq]; rfl
    refine ⟨?_, ?_, ?_⟩
    · rw [e]
      intro p hp x hx
      rw [List.length_set]
      rcases List.mem_or_eq_of_mem_set hp with hp | hp
      · exact i.names p hp x hx
      · rw [hp] at hx
        rcases List.mem_append.mp hx with hx | hx
        · exact i.names q (List.mem_of_getElem? hq) x hx
        · rw [List.mem_singleton.mp hx, hlen]; exact hsr
    · rw [e, total_set hq, i.tot]
    · intro j p hp
      rw [e] at hp
      rw [take_snoc hoo, List.count_append, List.count_cons, List.count_nil]
      by_cases z : o.toNat = j
      · subst z
        rw [List.getElem?_set_self (by omega)] at hp
        cases hp
        rw [List.length_append, List.length_singleton, i.cnt _ _ hq, show ((o.toNat : Nat) : Int) = o by omega]
        simp
      · rw [List.getElem?_set_ne z] at hp
        have ne : (o == (j : Int)) = false := by
          refine Bool.eq_false_iff.mpr fun h => ?_
          have := eq_of_beq h
          omega
        rw [i.cnt j p hp, ne]; rfl
theorem names_in {n : Nat} {P : Piles} (h : P.length = n) : ∀ x : Int, (0 ≤ x ∧ x < n) → InN P x := fun x hx => by
  unfold InN; rw [h]; exact hx
end VL
-- P8
set_option maxHeartbeats 1000000
namespace VL
open PySem PySem.Spec L2
theorem and2 {p q : Prop} [Decidable p] [Decidable q] {A B : Prop} (h : ¬ (p ∧ q)) (hb : B) : (match decide p with
    | true => (match decide q with
      | true => A
      | false => B)
    | false => B) := by
  by_cases a : p
  · by_cases b : q
    · exact absurd ⟨a, b⟩ h
    · rw [decide_eq_true a, decide_eq_false b]; exact hb
  · rw [decide_eq_false a]; exact hb
theorem or2 {p q : Prop} [Decidable p] [Decidable q] {A B : Prop} (h : p ∨ q) (ha : A) : (match decide p with
    | true => A
    | false => (match decide q with
      | true => A
      | false => B)) := by
  by_cases a : p
  · rw [decide_eq_true a]; exact ha
  · by_cases b : q
    · rw [decide_eq_false a, decide_eq_true b]; exact ha
    · exact absurd h (fun h => h.elim a b)
theorem nor2 {p q : Prop} [Decidable p] [Decidable q] {A B : Prop} (h : ¬ (p ∨ q)) (hb : B) : (match decide p with
    | true => A
    | false => (match decide q with
      | true => A
      | false => B)) := by
  have a : ¬ p := fun z => h (.inl z)
  have b : ¬ q := fun z => h (.inr z)
  rw [decide_eq_false a, decide_eq_false b]; exact hb
theorem chkPiles_rows {pss : Piles} (h : chkPiles pss = none) : ∀ p ∈ pss, chkRow pss.length 60 .pile p = none := by
  unfold chkPiles at h
  split at h
  · cases h
  · split at h
    · cases h
    · split at h
      · cases h
      · rename_i h1
        exact fun p hp => List.findSome?_eq_none_iff.mp h1 p hp
theorem chkPiles_of {pss : Piles} {er : Er} {m : Nat} {row : List Int} (h0 : 0 < pss.length) (h1 : pss.length ≤ 40) (hm : pss[m]? = some row) (hb : ∀ j p, j < m → pss[j]? = some p → chkRow pss.length 60 .pile p = none) (h : chkRow pss.length 60 .pile row = some er) : chkPiles pss = some er := by
  unfold chkPiles
  rw [if_neg (by omega), if_neg (by omega), fsome_at hm hb h]
theorem chkPiles_set {pss : Piles} {v : Int} {row : List Int} {er : Er} (hck : chkPiles pss = none) (hv : InN pss v) (h : chkRow pss.length 60 .pile row = some er) : chkPiles (pss.set v.toNat row) = some er := by
  obtain ⟨p1, p2, _, _⟩ := chkPiles_names hck
  have hr := chkPiles_rows hck
  have hl : (pss.set v.toNat row).length = pss.length := List.length_set
  refine chkPiles_of (m := v.toNat) (row := row) (by omega) (by omega) (List.getElem?_set_self (by have := hv.2; have := hv.1; omega)) (fun j p hj hp => ?_) (by rw [hl]; exact h)
  rw [List.getElem?_set_ne (by omega)] at hp
  rw [hl]
  exact hr p (List.mem_of_getElem? hp)
theorem chkRow_long {n : Int} {most : Nat} {e : Er} {ns : List Int} (h : most < ns.length) : chkRow n most e ns = some e := if_pos h
theorem chkRow_bad {n : Int} {most : Nat} {e : Er} {a b : List Int} {x : Int} (hl : (a ++ [x] ++ b).length ≤ most) (ha : ∀ y ∈ a, 0 ≤ y ∧ y < n) (hx : ¬ (0 ≤ x ∧ x < n)) : chkRow n most e (a ++ [x] ++ b) = some (.bad x) := by
  unfold chkRow
  rw [if_neg (by omega)]
  have h1 : a.find? (fun x => !okI n x) = none := List.find?_eq_none.mpr fun y hy => by rw [okI_iff.mpr (ha y hy)]; simp
  have h2 : okI n x = false := okI_no.mpr hx
  rw [List.append_assoc, List.find?_append, h1, List.find?_append]
  simp [List.find?, h2]
theorem chkRow_none {n : Int} {most : Nat} {e : Er} {ns : List Int} (hl : ns.length ≤ most) (ha : ∀ y ∈ ns, 0 ≤ y ∧ y < n) : chkRow n most e ns = none := by
  unfold chkRow
  rw [if_neg (by omega), List.find?_eq_none.mpr fun y hy => by rw [okI_iff.mpr (ha y hy)]; simp]
  rfl
def full5 (v : Int) (n : Nat) : Piles := ((List.range 5).map fun (w : Nat) => List.replicate 60 (w : Int)) ++ [[v]] ++ List.replicate (n - 6) []
theorem full5_chk {v : Int} {n : Nat} (hn : 5 < n) (h40 : n ≤ 40) (hv : 0 ≤ v ∧ v < n) : chkPiles (full5 v n) = some .slips := by
  have hl : (full5 v n).length = n := by
    unfold full5
    rw [List.length_append, List.length_append, List.length_map, List.length_range, List.length_replicate, List.length_singleton]; omega
  unfold chkPiles
  rw [if_neg (by omega), if_neg (by omega)]
  have h1 : (full5 v n).findSome? (chkRow (full5 v n).length 60 .pile) = none := by
    refine List.findSome?_eq_none_iff.mpr fun p hp => ?_
    rw [hl]
    unfold full5 at hp
    rcases List.mem_append.mp hp with h | h
    · rcases List.mem_append.mp h with h | h
      · obtain ⟨w, hw, rfl⟩ := List.mem_map.mp h
        have := List.mem_range.mp hw
        refine chkRow_none (by rw [List.length_replicate]; exact Nat.le_refl _) fun y hy => ?_
        rw [(List.mem_replicate.mp hy).2]; omega
      · rw [List.mem_singleton.mp h]
        exact chkRow_none (by simp) fun y hy => by rw [List.mem_singleton.mp hy]; exact hv
    · rw [(List.mem_replicate.mp h).2]
      exact chkRow_none (by simp) fun y hy => nomatch hy
  rw [h1]
  have h2 : ((full5 v n).map List.length).sum = 301 := by
    unfold full5
    rw [List.map_append, List.map_append, List.map_map, List.map_replicate, List.sum_append, List.sum_append]
    have z : ∀ m, (List.replicate m (([] : List Int).length)).sum = 0 := fun m => by
      induction m with
      | zero => rfl
      | succ m ih => rw [List.replicate_succ, List.sum_cons, ih]; rfl
    rw [z]
    rfl
  simp only [h2]
  rfl
def StartsBad (n : Int) (s : List Int) (er : Er) : Prop := chkRow n 40 .couriers s = some er ∧ s.length ≤ 5000
end VL
namespace VL
open PySem PySem.Spec L2
theorem er_py (er : Er) : ∃ l, PyLN 2 [.str (erC er), .tup (erA er)] l := by
  cases er with
  | bad x => exact ⟨_, .cons (.str 2 _ (show PyData.canLay0 (.str ("BadStation" : Str)) = true by decide +kernel)) (.cons (PyLN.tup (.cons (.int 1 x) (.nil 1))) (.nil 2))⟩
  | empty => exact ⟨_, .cons (.str 2 _ (by decide +kernel)) (.cons (PyLN.tup (.cons (.str 1 _ (by decide +kernel)) (.nil 1))) (.nil 2))⟩
  | stations => exact ⟨_, .cons (.str 2 _ (by decide +kernel)) (.cons (PyLN.tup (.cons (.str 1 _ (by decide +kernel)) (.cons (.int 1 _) (.nil 1)))) (.nil 2))⟩
  | pile => exact ⟨_, .cons (.str 2 _ (by decide +kernel)) (.cons (PyLN.tup (.cons (.str 1 _ (by decide +kernel)) (.cons (.int 1 _) (.nil 1)))) (.nil 2))⟩
  | slips => exact ⟨_, .cons (.str 2 _ (by decide +kernel)) (.cons (PyLN.tup (.cons (.str 1 _ (by decide +kernel)) (.cons (.int 1 _) (.nil 1)))) (.nil 2))⟩
  | couriers => exact ⟨_, .cons (.str 2 _ (by decide +kernel)) (.cons (PyLN.tup (.cons (.str 1 _ (by decide +kernel)) (.cons (.int 1 _) (.nil 1)))) (.nil 2))⟩
theorem er_nil {er : Er} {Q : D → Prop} (h : Q (.bl false)) : gEqA (erR er) (.tup []) Q := by
  obtain ⟨l, hl⟩ := er_py er
  exact gEqA_nilT hl (by decide) (by rw [decide_eq_false (by simp)]; exact h)
theorem nil_nil {Q : D → Prop} (h : Q (.bl true)) : gEqA (.tup []) (.tup []) Q := gEqA_nilT (PyLN.nil 2) (by decide) (by rw [decide_eq_true rfl]; exact h)
theorem chkDeal_bad {pss : Piles} {er : Er} (h : chkPiles pss = some er) (s : List Int) : chkDeal pss s = some er := by unfold chkDeal; rw [h]
theorem chkDeal_good {pss : Piles} (h : chkPiles pss = none) (s : List Int) : chkDeal pss s = chkRow pss.length 40 .couriers s := by unfold chkDeal; rw [h]
theorem AskA.bad {w : Int} {pss : Piles} {s : List Int} {ans : D} {er : Er} (h : AskA w pss s ans) (hw : w = 0 ∨ w = 1 ∨ w = 2) (hb : chkPiles pss = some er) : ans = refD er := by
  rcases hw with rfl | rfl | rfl
  · have := h.1 rfl; rw [chkDeal_bad hb] at this; exact this
  · have := h.2.1 rfl; rw [chkDeal_bad hb] at this; exact this
  · have := h.2.2 rfl; rw [chkDeal_bad hb] at this; exact this
theorem AskA.good {w : Int} {pss : Piles} {s : List Int} {ans : D} (h : AskA w pss s ans) (hw : w = 0 ∨ w = 1) (hb : chkPiles pss = none) : ∃ d, ans = okD d := by
  rcases hw with rfl | rfl
  · have := h.1 rfl; rw [chkDeal_good hb, chkRow_none (by simp) (fun y h => by cases h)] at this; obtain ⟨d, rfl, _⟩ := this; exact ⟨d, rfl⟩
  · have := h.2.1 rfl; rw [chkDeal_good hb, chkRow_none (by simp) (fun y h => by cases h)] at this; obtain ⟨d, rfl, _⟩ := this; exact ⟨d, rfl⟩
theorem AskA.bad2 {pss : Piles} {s : List Int} {ans : D} {er : Er} (h : AskA 2 pss s ans) (hb : chkPiles pss = none) (hr : chkRow pss.length 40 .couriers s = some er) : ans = refD er := by
  have := h.2.2 rfl; rw [chkDeal_good hb, hr] at this; exact this
end VL
namespace VL
open PySem PySem.Spec L2
theorem chkPiles_ok {pss : Piles} (h0 : 0 < pss.length) (h1 : pss.length ≤ 40) (hn : NamesOk pss) (ht : total pss ≤ 300) (h60 : ∀ p ∈ pss, p.length ≤ 60) : chkPiles pss = none := by
  unfold chkPiles
  rw [if_neg (by omega), if_neg (by omega)]
  have e : pss.findSome? (chkRow pss.length 60 .pile) = none := List.findSome?_eq_none_iff.mpr fun p hp => chkRow_none (h60 p hp) (hn p hp)
  rw [e]
  have : (pss.map List.length).sum ≤ 300 := ht
  simp only []
  rw [if_neg (by omega)]
def onesP (pss : Piles) (x : Int) : Piles := pss.map fun p => List.replicate p.length x
theorem onesP_len (pss : Piles) (x : Int) : (onesP pss x).length = pss.length := List.length_map ..
theorem onesP_total (pss : Piles) (x : Int) : total (onesP pss x) = total pss := by
  unfold total onesP
  rw [List.map_map]
  congr 1
  refine List.map_congr_left fun p _ => ?_
  exact List.length_replicate
theorem onesP_ok {pss : Piles} {x : Int} (h0 : 0 < pss.length) (h1 : pss.length ≤ 40) (ht : total pss ≤ 300) (h60 : ∀ p ∈ pss, p.length ≤ 60) (hx : InN pss x) : chkPiles (onesP pss x) = none := by
  refine chkPiles_ok (by rw [onesP_len]; exact h0) (by rw [onesP_len]; exact h1) (fun p hp y hy => ?_) (by rw [onesP_total]; exact ht) (fun p hp => ?_)
  · obtain ⟨q, _, rfl⟩ := List.mem_map.mp hp
    rw [(List.mem_replicate.mp hy).2, onesP_len]; exact hx
  · obtain ⟨q, hq, rfl⟩ := List.mem_map.mp hp
    rw [List.length_replicate]; exact h60 q hq
end VL
local macro_rules
  | `(tactic| simp!) => `(tactic| simp only [VL.sSeq, VL.sSet, VL.sNext, VL.sBreak, VL.sCont, VL.sDrop, VL.sRet, VL.retOf, VL.sRetN, VL.sIfS, VL.sVar, VL.sD, VL.sOp, VL.sOp2, VL.gCat, VL.gRep, VL.gIx, VL.gIn, VL.sTst, VL.sAndT, VL.sOrT, VL.sNotT, VL.sAndV, VL.sOrV, VL.sNotV, VL.sIf, VL.dat, VL.datL, VL.frz, VL.frzL, VL.frzF, VL.itm, VL.ls, VL.allT, VL.sCons, VL.sNil, VL.sCb, VL.fSum, VL.sLst, VL.sTup, VL.sCopyL, VL.sCopyT, VL.sSorted, VL.sFld, VL.sFz, VL.sFrz, VL.sFrzE, VL.frzAt, VL.isOn, VL.isLst, VL.asIntO, VL.sSetIx, VL.sAugIx, VL.sAug, VL.sApp, VL.sAppO, VL.sCall, VL.takeL, VL.giveL, VL.ends, VL.outs, VL.prs, VL.gSlot, VL.gEnd, VL.gMore, VL.gTupV, VL.uRng1, VL.uRng2, VL.uSeq, VL.uEnum, VL.uZip, VL.sNeg, VL.sSl, VL.sNoP, VL.sPart, VL.sIsX, VL.clsOf, VL.sXf, VL.sCallE, VL.endE, VL.sRaise, VL.sTry, VL.sFldSet, VL.sCon, VL.sMake, VL.sCallD, VL.lstO, VL.flatO, VL.sAppAt, VL.sTo, VL.sExt, VL.sIdx, VL.sSortedT, VL.sYes, VL.wipeE, VL.exq, VL.en0, VL.cxK, VL.cxHK, VL.at_0, VL.at_1, VL.at_2, VL.at_3, VL.at_4, VL.at_5, VL.ix6_1, VL.ix6_2, VL.ix6_3, VL.ix6_4, VL.gLen_lst, VL.gLen_tup, VL.gLen_scr, VL.items_lst, VL.items_tup, VL.items_scr, VL.itm_lst', VL.itm_tup', VL.itm_scr', VL.itmO_st, VL.itmO_lst, VL.lsO_lst', VL.lsO_own', VL.gI0_eq, VL.gI_eq, VL.gAdd_int, VL.gAdd_bor, VL.gAdd_own, VL.gAdd_lst, VL.gMul_int, VL.gMul_bor, VL.gMul_own, VL.gMul_lst, VL.gEq_int, VL.gEq_str, VL.gEq_bl, VL.gNe_eq, VL.gIsN_eq, VL.gNotN_eq, VL.isNon_non, VL.isNon_int, VL.asI_eq, VL.asB_eq, VL.asT_eq, VL.gInt_int, VL.gInt_bl, VL.gAbs_eq, VL.gMax_eq, VL.gInts_eq, VL.gIsi_eq, VL.goI_map, Option.map_some, List.getElem?_cons_zero, List.getElem?_cons_succ, List.getElem?_nil, List.set_cons_zero, List.set_cons_succ, List.length_cons, List.length_nil, List.length_map, List.map_cons, List.map_nil, VL.allSt_map, VL.frzL_st, VL.st_snoc, VL.st_set, VL.int_set, VL.allSt, List.nil_append, List.cons_append, List.append_nil, List.contains_nil, List.contains_cons, beq_self_eq_true, Nat.reduceBEq, Bool.or_false, Bool.false_or, Bool.true_or, VL.lk_piles, VL.lk_starts, VL.put_piles, VL.put_starts, Option.join_some, if_true, if_false, Bool.not_true, Bool.not_false, and_true, true_and, List.replicate_succ, List.replicate_zero, Nat.reduceSub, List.zip_cons_cons, List.zip_nil_right, List.zip_nil_left, List.reverse_cons, List.reverse_nil, Nat.zero_add, Nat.reduceAdd, Nat.reduceLT, Nat.reduceLeDiff])
  | `(tactic| simp! [$a,*]) => `(tactic| simp only [VL.sSeq, VL.sSet, VL.sNext, VL.sBreak, VL.sCont, VL.sDrop, VL.sRet, VL.retOf, VL.sRetN, VL.sIfS, VL.sVar, VL.sD, VL.sOp, VL.sOp2, VL.gCat, VL.gRep, VL.gIx, VL.gIn, VL.sTst, VL.sAndT, VL.sOrT, VL.sNotT, VL.sAndV, VL.sOrV, VL.sNotV, VL.sIf, VL.dat, VL.datL, VL.frz, VL.frzL, VL.frzF, VL.itm, VL.ls, VL.allT, VL.sCons, VL.sNil, VL.sCb, VL.fSum, VL.sLst, VL.sTup, VL.sCopyL, VL.sCopyT, VL.sSorted, VL.sFld, VL.sFz, VL.sFrz, VL.sFrzE, VL.frzAt, VL.isOn, VL.isLst, VL.asIntO, VL.sSetIx, VL.sAugIx, VL.sAug, VL.sApp, VL.sAppO, VL.sCall, VL.takeL, VL.giveL, VL.ends, VL.outs, VL.prs, VL.gSlot, VL.gEnd, VL.gMore, VL.gTupV, VL.uRng1, VL.uRng2, VL.uSeq, VL.uEnum, VL.uZip, VL.sNeg, VL.sSl, VL.sNoP, VL.sPart, VL.sIsX, VL.clsOf, VL.sXf, VL.sCallE, VL.endE, VL.sRaise, VL.sTry, VL.sFldSet, VL.sCon, VL.sMake, VL.sCallD, VL.lstO, VL.flatO, VL.sAppAt, VL.sTo, VL.sExt, VL.sIdx, VL.sSortedT, VL.sYes, VL.wipeE, VL.exq, VL.en0, VL.cxK, VL.cxHK, VL.at_0, VL.at_1, VL.at_2, VL.at_3, VL.at_4, VL.at_5, VL.ix6_1, VL.ix6_2, VL.ix6_3, VL.ix6_4, VL.gLen_lst, VL.gLen_tup, VL.gLen_scr, VL.items_lst, VL.items_tup, VL.items_scr, VL.itm_lst', VL.itm_tup', VL.itm_scr', VL.itmO_st, VL.itmO_lst, VL.lsO_lst', VL.lsO_own', VL.gI0_eq, VL.gI_eq, VL.gAdd_int, VL.gAdd_bor, VL.gAdd_own, VL.gAdd_lst, VL.gMul_int, VL.gMul_bor, VL.gMul_own, VL.gMul_lst, VL.gEq_int, VL.gEq_str, VL.gEq_bl, VL.gNe_eq, VL.gIsN_eq, VL.gNotN_eq, VL.isNon_non, VL.isNon_int, VL.asI_eq, VL.asB_eq, VL.asT_eq, VL.gInt_int, VL.gInt_bl, VL.gAbs_eq, VL.gMax_eq, VL.gInts_eq, VL.gIsi_eq, VL.goI_map, Option.map_some, List.getElem?_cons_zero, List.getElem?_cons_succ, List.getElem?_nil, List.set_cons_zero, List.set_cons_succ, List.length_cons, List.length_nil, List.length_map, List.map_cons, List.map_nil, VL.allSt_map, VL.frzL_st, VL.st_snoc, VL.st_set, VL.int_set, VL.allSt, List.nil_append, List.cons_append, List.append_nil, List.contains_nil, List.contains_cons, beq_self_eq_true, Nat.reduceBEq, Bool.or_false, Bool.false_or, Bool.true_or, VL.lk_piles, VL.lk_starts, VL.put_piles, VL.put_starts, Option.join_some, if_true, if_false, Bool.not_true, Bool.not_false, and_true, true_and, List.replicate_succ, List.replicate_zero, Nat.reduceSub, List.zip_cons_cons, List.zip_nil_right, List.zip_nil_left, List.reverse_cons, List.reverse_nil, Nat.zero_add, Nat.reduceAdd, Nat.reduceLT, Nat.reduceLeDiff, $a,*])
local macro_rules
  | `(tactic| simp_all!) => `(tactic| try simp only [VL.sSeq, VL.sSet, VL.sNext, VL.sBreak, VL.sCont, VL.sDrop, VL.sRet, VL.retOf, VL.sRetN, VL.sIfS, VL.sVar, VL.sD, VL.sOp, VL.sOp2, VL.gCat, VL.gRep, VL.gIx, VL.gIn, VL.sTst, VL.sAndT, VL.sOrT, VL.sNotT, VL.sAndV, VL.sOrV, VL.sNotV, VL.sIf, VL.dat, VL.datL, VL.frz, VL.frzL, VL.frzF, VL.itm, VL.ls, VL.allT, VL.sCons, VL.sNil, VL.sCb, VL.fSum, VL.sLst, VL.sTup, VL.sCopyL, VL.sCopyT, VL.sSorted, VL.sFld, VL.sFz, VL.sFrz, VL.sFrzE, VL.frzAt, VL.isOn, VL.isLst, VL.asIntO, VL.sSetIx, VL.sAugIx, VL.sAug, VL.sApp, VL.sAppO, VL.sCall, VL.takeL, VL.giveL, VL.ends, VL.outs, VL.prs, VL.gSlot, VL.gEnd, VL.gMore, VL.gTupV, VL.uRng1, VL.uRng2, VL.uSeq, VL.uEnum, VL.uZip, VL.sNeg, VL.sSl, VL.sNoP, VL.sPart, VL.sIsX, VL.clsOf, VL.sXf, VL.sCallE, VL.endE, VL.sRaise, VL.sTry, VL.sFldSet, VL.sCon, VL.sMake, VL.sCallD, VL.lstO, VL.flatO, VL.sAppAt, VL.sTo, VL.sExt, VL.sIdx, VL.sSortedT, VL.sYes, VL.wipeE, VL.exq, VL.en0, VL.cxK, VL.cxHK, VL.at_0, VL.at_1, VL.at_2, VL.at_3, VL.at_4, VL.at_5, VL.ix6_1, VL.ix6_2, VL.ix6_3, VL.ix6_4, VL.gLen_lst, VL.gLen_tup, VL.gLen_scr, VL.items_lst, VL.items_tup, VL.items_scr, VL.itm_lst', VL.itm_tup', VL.itm_scr', VL.itmO_st, VL.itmO_lst, VL.lsO_lst', VL.lsO_own', VL.gI0_eq, VL.gI_eq, VL.gAdd_int, VL.gAdd_bor, VL.gAdd_own, VL.gAdd_lst, VL.gMul_int, VL.gMul_bor, VL.gMul_own, VL.gMul_lst, VL.gEq_int, VL.gEq_str, VL.gEq_bl, VL.gNe_eq, VL.gIsN_eq, VL.gNotN_eq, VL.isNon_non, VL.isNon_int, VL.asI_eq, VL.asB_eq, VL.asT_eq, VL.gInt_int, VL.gInt_bl, VL.gAbs_eq, VL.gMax_eq, VL.gInts_eq, VL.gIsi_eq, VL.goI_map, Option.map_some, List.getElem?_cons_zero, List.getElem?_cons_succ, List.getElem?_nil, List.set_cons_zero, List.set_cons_succ, List.length_cons, List.length_nil, List.length_map, List.map_cons, List.map_nil, VL.allSt_map, VL.frzL_st, VL.st_snoc, VL.st_set, VL.int_set, VL.allSt, List.nil_append, List.cons_append, List.append_nil, List.contains_nil, List.contains_cons, beq_self_eq_true, Nat.reduceBEq, Bool.or_false, Bool.false_or, Bool.true_or, VL.lk_piles, VL.lk_starts, VL.put_piles, VL.put_starts, Option.join_some, if_true, if_false, Bool.not_true, Bool.not_false, and_true, true_and, List.replicate_succ, List.replicate_zero, Nat.reduceSub, List.zip_cons_cons, List.zip_nil_right, List.zip_nil_left, List.reverse_cons, List.reverse_nil, Nat.zero_add, Nat.reduceAdd, Nat.reduceLT, Nat.reduceLeDiff])
local macro_rules
  | `(tactic| dsimp!) => `(tactic| simp only [VL.sSet, VL.sNext, VL.sBreak, VL.sCont, VL.sDrop, VL.sRet, VL.retOf, VL.sRetN, VL.sIfS, VL.sVar, VL.sD, VL.sOp, VL.sOp2, VL.gCat, VL.gRep, VL.gIx, VL.gIn, VL.sTst, VL.sAndT, VL.sOrT, VL.sNotT, VL.sAndV, VL.sOrV, VL.sNotV, VL.sIf, VL.dat, VL.datL, VL.frz, VL.frzL, VL.frzF, VL.itm, VL.ls, VL.allT, VL.sCons, VL.sNil, VL.sCb, VL.fSum, VL.sLst, VL.sTup, VL.sCopyL, VL.sCopyT, VL.sSorted, VL.sFld, VL.sFz, VL.sFrz, VL.sFrzE, VL.frzAt, VL.isOn, VL.isLst, VL.asIntO, VL.sSetIx, VL.sAugIx, VL.sAug, VL.sApp, VL.sAppO, VL.sCall, VL.takeL, VL.giveL, VL.ends, VL.outs, VL.prs, VL.gSlot, VL.gEnd, VL.gMore, VL.gTupV, VL.uRng1, VL.uRng2, VL.uSeq, VL.uEnum, VL.uZip, VL.sNeg, VL.sSl, VL.sNoP, VL.sPart, VL.sIsX, VL.clsOf, VL.sXf, VL.sCallE, VL.endE, VL.sRaise, VL.sTry, VL.sFldSet, VL.sCon, VL.sMake, VL.sCallD, VL.lstO, VL.flatO, VL.sAppAt, VL.sTo, VL.sExt, VL.sIdx, VL.sSortedT, VL.sYes, VL.wipeE, VL.exq, VL.en0, VL.cxK, VL.cxHK, VL.at_0, VL.at_1, VL.at_2, VL.at_3, VL.at_4, VL.at_5, VL.ix6_1, VL.ix6_2, VL.ix6_3, VL.ix6_4, VL.gLen_lst, VL.gLen_tup, VL.gLen_scr, VL.items_lst, VL.items_tup, VL.items_scr, VL.itm_lst', VL.itm_tup', VL.itm_scr', VL.itmO_st, VL.itmO_lst, VL.lsO_lst', VL.lsO_own', VL.gI0_eq, VL.gI_eq, VL.gAdd_int, VL.gAdd_bor, VL.gAdd_own, VL.gAdd_lst, VL.gMul_int, VL.gMul_bor, VL.gMul_own, VL.gMul_lst, VL.gEq_int, VL.gEq_str, VL.gEq_bl, VL.gNe_eq, VL.gIsN_eq, VL.gNotN_eq, VL.isNon_non, VL.isNon_int, VL.asI_eq, VL.asB_eq, VL.asT_eq, VL.gInt_int, VL.gInt_bl, VL.gAbs_eq, VL.gMax_eq, VL.gInts_eq, VL.gIsi_eq, VL.goI_map, Option.map_some, List.getElem?_cons_zero, List.getElem?_cons_succ, List.getElem?_nil, List.set_cons_zero, List.set_cons_succ, List.length_cons, List.length_nil, List.length_map, List.map_cons, List.map_nil, VL.allSt_map, VL.frzL_st, VL.st_snoc, VL.st_set, VL.int_set, VL.allSt, List.nil_append, List.cons_append, List.append_nil, List.contains_nil, List.contains_cons, beq_self_eq_true, Nat.reduceBEq, Bool.or_false, Bool.false_or, Bool.true_or, VL.lk_piles, VL.lk_starts, VL.put_piles, VL.put_starts, Option.join_some, if_true, if_false, Bool.not_true, Bool.not_false, and_true, true_and, List.replicate_succ, List.replicate_zero, Nat.reduceSub, List.zip_cons_cons, List.zip_nil_right, List.zip_nil_left, List.reverse_cons, List.reverse_nil, Nat.zero_add, Nat.reduceAdd, Nat.reduceLT, Nat.reduceLeDiff])
  | `(tactic| dsimp! [$a,*]) => `(tactic| simp only [VL.sSet, VL.sNext, VL.sBreak, VL.sCont, VL.sDrop, VL.sRet, VL.retOf, VL.sRetN, VL.sIfS, VL.sVar, VL.sD, VL.sOp, VL.sOp2, VL.gCat, VL.gRep, VL.gIx, VL.gIn, VL.sTst, VL.sAndT, VL.sOrT, VL.sNotT, VL.sAndV, VL.sOrV, VL.sNotV, VL.sIf, VL.dat, VL.datL, VL.frz, VL.frzL, VL.frzF, VL.itm, VL.ls, VL.allT, VL.sCons, VL.sNil, VL.sCb, VL.fSum, VL.sLst, VL.sTup, VL.sCopyL, VL.sCopyT, VL.sSorted, VL.sFld, VL.sFz, VL.sFrz, VL.sFrzE, VL.frzAt, VL.isOn, VL.isLst, VL.asIntO, VL.sSetIx, VL.sAugIx, VL.sAug, VL.sApp, VL.sAppO, VL.sCall, VL.takeL, VL.giveL, VL.ends, VL.outs, VL.prs, VL.gSlot, VL.gEnd, VL.gMore, VL.gTupV, VL.uRng1, VL.uRng2, VL.uSeq, VL.uEnum, VL.uZip, VL.sNeg, VL.sSl, VL.sNoP, VL.sPart, VL.sIsX, VL.clsOf, VL.sXf, VL.sCallE, VL.endE, VL.sRaise, VL.sTry, VL.sFldSet, VL.sCon, VL.sMake, VL.sCallD, VL.lstO, VL.flatO, VL.sAppAt, VL.sTo, VL.sExt, VL.sIdx, VL.sSortedT, VL.sYes, VL.wipeE, VL.exq, VL.en0, VL.cxK, VL.cxHK, VL.at_0, VL.at_1, VL.at_2, VL.at_3, VL.at_4, VL.at_5, VL.ix6_1, VL.ix6_2, VL.ix6_3, VL.ix6_4, VL.gLen_lst, VL.gLen_tup, VL.gLen_scr, VL.items_lst, VL.items_tup, VL.items_scr, VL.itm_lst', VL.itm_tup', VL.itm_scr', VL.itmO_st, VL.itmO_lst, VL.lsO_lst', VL.lsO_own', VL.gI0_eq, VL.gI_eq, VL.gAdd_int, VL.gAdd_bor, VL.gAdd_own, VL.gAdd_lst, VL.gMul_int, VL.gMul_bor, VL.gMul_own, VL.gMul_lst, VL.gEq_int, VL.gEq_str, VL.gEq_bl, VL.gNe_eq, VL.gIsN_eq, VL.gNotN_eq, VL.isNon_non, VL.isNon_int, VL.asI_eq, VL.asB_eq, VL.asT_eq, VL.gInt_int, VL.gInt_bl, VL.gAbs_eq, VL.gMax_eq, VL.gInts_eq, VL.gIsi_eq, VL.goI_map, Option.map_some, List.getElem?_cons_zero, List.getElem?_cons_succ, List.getElem?_nil, List.set_cons_zero, List.set_cons_succ, List.length_cons, List.length_nil, List.length_map, List.map_cons, List.map_nil, VL.allSt_map, VL.frzL_st, VL.st_snoc, VL.st_set, VL.int_set, VL.allSt, List.nil_append, List.cons_append, List.append_nil, List.contains_nil, List.contains_cons, beq_self_eq_true, Nat.reduceBEq, Bool.or_false, Bool.false_or, Bool.true_or, VL.lk_piles, VL.lk_starts, VL.put_piles, VL.put_starts, Option.join_some, if_true, if_false, Bool.not_true, Bool.not_false, and_true, true_and, List.replicate_succ, List.replicate_zero, Nat.reduceSub, List.zip_cons_cons, List.zip_nil_right, List.zip_nil_left, List.reverse_cons, List.reverse_nil, Nat.zero_add, Nat.reduceAdd, Nat.reduceLT, Nat.reduceLeDiff, $a,*])
-- S
set_option maxHeartbeats 4000000
namespace K80
open PySem PySem.Spec L2 VL
def top (i : Nat) : Stmt := PySem.Challenge.pw_lastslips_k80_fewest_starts.main.body.getD i (.Pass ⟨0, 0, 0, 0⟩)
abbrev cBody : Stmt → List Stmt
  | .ClassDef _ _ _ b _ _ _ _ _ _ _ => b
  | _ => []
def RAISED : List Str := ["BadStation", "TooMany", "Empty", "BadNumber", "BadPlace", "Unframed", "NotPack"]
theorem raised_all : ∀ x ∈ RAISED, x ∈ ALLX := by decide
structure Tx (P : Program) (w : World) (K : Fr) (mg : Str → Option Value) (base : Heap) : Prop where
  b_len : mg "len" = none
  b_range : mg "range" = none
  b_sum : mg "sum" = none
  b_list : mg "list" = none
  b_tuple : mg "tuple" = none
  b_sorted : mg "sorted" = none
  b_min : mg "min" = none
  b_max : mg "max" = none
  b_abs : mg "abs" = none
  b_int : mg "int" = none
  b_isinstance : mg "isinstance" = none
  b_enumerate : mg "enumerate" = none
  b_zip : mg "zip" = none
  b_str : mg "str" = none
  b_bool : mg "bool" = none
  b_ValueError : mg "ValueError" = none
  g_MOST_STATIONS : ∃ t, mg "MOST_STATIONS" = some (.int 40 t)
  m_Refused : mg "Refused" = some (.ref (He.ga K "Refused"))
  m_BadText : mg "BadText" = some (.ref (He.ga K "BadText"))
  m_Malformed : mg "Malformed" = some (.ref (He.ga K "Malformed"))
  m_BadStation : mg "BadStation" = some (.ref (He.ga K "BadStation"))
  m_BadPlace : mg "BadPlace" = some (.ref (He.ga K "BadPlace"))
  m_BadNumber : mg "BadNumber" = some (.ref (He.ga K "BadNumber"))
  m_TooMany : mg "TooMany" = some (.ref (He.ga K "TooMany"))
  m_Empty : mg "Empty" = some (.ref (He.ga K "Empty"))
  m_Unframed : mg "Unframed" = some (.ref (He.ga K "Unframed"))
  m_NotPack : mg "NotPack" = some (.ref (He.ga K "NotPack"))
  m_Unlike : mg "Unlike" = some (.ref (He.ga K "Unlike"))
  m_Stuck : mg "Stuck" = some (.ref (He.ga K "Stuck"))
  m_NothingBack : mg "NothingBack" = some (.ref (He.ga K "NothingBack"))
  m_LeftOver : mg "LeftOver" = some (.ref (He.ga K "LeftOver"))
  m_NotTrail : mg "NotTrail" = some (.ref (He.ga K "NotTrail"))
  m_Blocked : mg "Blocked" = some (.ref (He.ga K "Blocked"))
  m_Unnamed : mg "Unnamed" = some (.ref (He.ga K "Unnamed"))
  m_Opened : mg "Opened" = some (.ref (He.ga K "Opened"))
  m_Missing : mg "Missing" = some (.ref (He.ga K "Missing"))
  m_NotLocal : mg "NotLocal" = some (.ref (He.ga K "NotLocal"))
  m_NoPlan : mg "NoPlan" = some (.ref (He.ga K "NoPlan"))
  m_Doubled : mg "Doubled" = some (.ref (He.ga K "Doubled"))
  m_BadCard : mg "BadCard" = some (.ref (He.ga K "BadCard"))
  m_Unknown : mg "Unknown" = some (.ref (He.ga K "Unknown"))
  m_NotEnd : mg "NotEnd" = some (.ref (He.ga K "NotEnd"))
  m_Deal : mg "Deal" = some (.ref (He.ga K "Deal"))
  d_check_arrows : Dfn K mg "check_arrows" (top 29) [] []
  d_check_index : Dfn K mg "check_index" (top 30) [] []
  d_from_least : Dfn K mg "from_least" (top 31) [] []
  d_rings_of : Dfn K mg "rings_of" (top 32) [] []
  d_check_station : Dfn K mg "check_station" (top 35) [] []
  d_check_count : Dfn K mg "check_count" (top 36) [] []
  d_check_pile : Dfn K mg "check_pile" (top 37) [] []
  d_check_total : Dfn K mg "check_total" (top 38) [] []
  d_check_piles : Dfn K mg "check_piles" (top 39) [] []
  d_check_starts : Dfn K mg "check_starts" (top 40) [] []
  d_tally_of : Dfn K mg "tally_of" (top 41) [] []
  d_make_deal : Dfn K mg "make_deal" (top 42) [.ref (He.dflAt ("make_deal", none) 0 K)] []
  d_sizes_of : Dfn K mg "sizes_of" (top 43) [] []
  d_pack_of : Dfn K mg "pack_of" (top 44) [] []
  d_bottoms : Dfn K mg "bottoms" (top 46) [] []
  d_last_slips : Dfn K mg "last_slips" (top 47) [] []
  d_take_step : Dfn K mg "take_step" (top 49) [] []
  d_run : Dfn K mg "run" (top 50) [] [("steps", .non)]
  d_comes_out : Dfn K mg "comes_out" (top 51) [] []
  d_lacks : Dfn K mg "lacks" (top 53) [] []
  d_lacking_rings : Dfn K mg "lacking_rings" (top 54) [] []
  d_fewest_starts : Dfn K mg "fewest_starts" (top 55) [] []
  d_best_starts : Dfn K mg "best_starts" (top 56) [] []
  d_judge_starts : Dfn K mg "judge_starts" (top 57) [] []
  d_law_mix : Dfn K mg "_law_mix" (top 59) [] []
  d_law_store : Dfn K mg "_law_store" (top 60) [] []
  d_law_take : Dfn K mg "_law_take" (top 61) [] []
  d_law_shuffled : Dfn K mg "_law_shuffled" (top 62) [] []
  d_law_end_counts : Dfn K mg "_law_end_counts" (top 63) [] []
  d_law_other_row : Dfn K mg "_law_other_row" (top 64) [] []
  d_law_same : Dfn K mg "_law_same" (top 65) [] []
  d_law_same_leaf : Dfn K mg "_law_same_leaf" (top 66) [] []
  d_law_pack_of : Dfn K mg "_law_pack_of" (top 67) [] []
  d_law_run : Dfn K mg "_law_run" (top 68) [] []
  d_law_aim_row : Dfn K mg "_law_aim_row" (top 69) [] []
  d_law_ring_rows : Dfn K mg "_law_ring_rows" (top 70) [] []
  d_law_seats : Dfn K mg "_law_seats" (top 71) [] []
  d_law_class_of : Dfn K mg "_law_class_of" (top 72) [] []
  d_law_refusal_of : Dfn K mg "_law_refusal_of" (top 73) [] []
  d_law_ask : Dfn K mg "_law_ask" (top 74) [] []
  d_law_told : Dfn K mg "_law_told" (top 75) [] []
  d_law_takes_all : Dfn K mg "_law_takes_all" (top 76) [] []
  d_law_least : Dfn K mg "_law_least" (top 77) [] []
  d_law_rule : Dfn K mg "_law_rule" (top 78) [] []
  d_law_judged : Dfn K mg "_law_judged" (top 79) [] []
  d_law_rows_of_starts : Dfn K mg "_law_rows_of_starts" (top 80) [] []
  d_law_odd : Dfn K mg "_law_odd" (top 81) [] []
  d_law_odd_piles : Dfn K mg "_law_odd_piles" (top 82) [] []
  d_law_trouble : Dfn K mg "_law_trouble" (top 83) [] []
  d_law : Dfn K mg "law" (top 84) [] []
  c_Deal : L2.Cls K (He.ga K "Deal")
  na_Deal_piles : NoAttr K (He.ga K "Deal") "piles"
  na_Deal_starts : NoAttr K (He.ga K "Deal") "starts"
  cr_Deal : ClX.CRead K (He.ga K "Deal") (.type "type")
  mk_Deal : Mk K (He.ga K "Deal") (He.ma K (He.ga K "Deal") "__init__")
  di_Deal : ∃ fd, FunD K "__init__" "Deal.__init__" (defArgs ((cBody (top 34)).getD 4 (.Pass ⟨0, 0, 0, 0⟩))) (defBody ((cBody (top 34)).getD 4 (.Pass ⟨0, 0, 0, 0⟩))) (defScope ((cBody (top 34)).getD 4 (.Pass ⟨0, 0, 0, 0⟩))) [] [] (He.ma K (He.ga K "Deal") "__init__") fd
  cv_Deal_STATIONS : ∃ u, ClX.CVal K (He.ga K "Deal") (.type "type") "STATIONS" (.int 40) u
  cv_Deal_PILE : ∃ u, ClX.CVal K (He.ga K "Deal") (.type "type") "PILE" (.int 60) u
  cv_Deal_SLIPS : ∃ u, ClX.CVal K (He.ga K "Deal") (.type "type") "SLIPS" (.int 300) u
  cv_Deal_COURIERS : ∃ u, ClX.CVal K (He.ga K "Deal") (.type "type") "COURIERS" (.int 40) u
  t_make : TpK K (He.dflAt ("make_deal", none) 0 K) []
  x_BadStation : Xc P w K mg base "BadStation" ["station"] (spI1 K "station")
  x_BadPlace : Xc P w K mg base "BadPlace" ["station", "at"] (spI2 K "station" "at")
  x_BadNumber : Xc P w K mg base "BadNumber" ["what"] (spI1 K "what")
  x_TooMany : Xc P w K mg base "TooMany" ["what", "limit"] (spI2 K "what" "limit")
  x_Empty : Xc P w K mg base "Empty" ["what"] (spI1 K "what")
  x_Unframed : Xc P w K mg base "Unframed" ["station"] (spI1 K "station")
  x_NotPack : Xc P w K mg base "NotPack" ["what"] (spI1 K "what")
  e_all : ∀ x ∈ RAISED, ExcC K (He.ga K x)
  f_all : ∀ x ∈ RAISED, XfC K (He.ga K x)
  r_exm : ∀ x ∈ RAISED, PySem.W.exmOne K (.ref (He.ga K x)) (.ref (He.ga K "Refused")) = some true
  r_kit : ∀ x ∈ RAISED, ∀ y ∈ ALLX, PySem.W.kitOne K (.ref (He.ga K x)) (.ref (He.ga K y)) = some (x == y)
  r_ve : ∀ x ∈ RAISED, PySem.W.kitOne K (.ref (He.ga K x)) (.type "ValueError") = some true
end K80
-- T0
set_option maxHeartbeats 1000000
namespace VL
open PySem PySem.Spec PyProof.Rows L2
section
variable {K : Fr} {h : Heap} {mg : Str → Option Value}
theorem bb {a b : Bool} (h : (a && b) = true) : a = true ∧ b = true := Bool.and_eq_true_iff.mp h
def oexB (K : Fr) (C : Addr) : Bool := (match K.lookup C with
  | some ⟨.type "type", none, .cls ⟨_, _, .ref C' :: bm, _, _, true, _, _, _, _, false⟩, sl⟩ => (match sl.toList with
    | [_, _, _, _, some (.builtin n), _] => decide (C' = C) && (n == "ValueError.__new__" && PySem.HandSPX.refsVE bm)
    | _ => false)
  | _ => false) && (decide (PySem.W.findIn K (.ref C) "__setattr__" = some (some (.builtin "object.__setattr__"))) && (decide (PySem.W.subIn K (.ref C) (.type "BaseException") = some true) && (decide (PySem.W.typeIn K (.ref C) = some (.type "type")) && PySem.W.keepIn K (.ref C))))
theorem oexB_ok {C : Addr} (q : oexB K C = true) : OexC K C := by
  obtain ⟨q1, q⟩ := bb q
  obtain ⟨q2, q⟩ := bb q
  obtain ⟨q3, q⟩ := bb q
  obtain ⟨q4, q5⟩ := bb q
  refine ⟨?_, of_decide_eq_true q2, of_decide_eq_true q3, of_decide_eq_true q4, q5⟩
  split at q1
  · rename_i nm bs C' bm ns qn sn sub ab col sl e
    split at q1
    · rename_i k0 k1 k2 k3 n k5 hs
      obtain ⟨a1, a2⟩ := bb q1
      obtain ⟨a2, a3⟩ := bb a2
      have e1 := of_decide_eq_true a1
      have e2 := beq_iff_eq.mp a2
      subst e1 e2
      have hsl : sl = #[k0, k1, k2, k3, some (.builtin "ValueError.__new__"), k5] := by
        obtain ⟨l⟩ := sl
        simp only at hs
        rw [hs]
      subst hsl
      exact ⟨nm, qn, ns, bs, bm, sn, sub, ab, col, none, k0, k1, k2, k3, k5, e, a3⟩
    · cases q1
  · cases q1
def excB (K : Fr) (D : Addr) : Bool := decide (PySem.W.findIn K (.ref D) "__getattribute__" = some (some (.builtin "BaseException.__getattribute__"))) && (decide (PySem.W.findIn K (.ref D) "__getattr__" = some none) && (decide (PySem.W.subIn K (.ref D) (.type "BaseException") = some true) &&
  (PySem.W.hasDictIn K D && (decide (PySem.W.findIn K (.ref D) "__class__" = some (some (.builtin "object.__class__"))) && (decide (PySem.W.specialIn K (.builtin "object.__class__") "__get__" = some (some (.builtin "getset_descriptor.__get__"))) &&
  (decide (PySem.W.takesIn K (.builtin "object.__class__") = some true) && decide (PySem.W.mroIn K D (.type "object") = some true)))))))
theorem excB_ok {D : Addr} (q : excB K D = true) : ExcC K D ∧ XfC K D := by
  obtain ⟨q1, q⟩ := bb q
  obtain ⟨q2, q⟩ := bb q
  obtain ⟨q3, q⟩ := bb q
  obtain ⟨q4, q⟩ := bb q
  obtain ⟨q5, q⟩ := bb q
  obtain ⟨q6, q⟩ := bb q
  obtain ⟨q7, q8⟩ := bb q
  exact ⟨⟨of_decide_eq_true q1, of_decide_eq_true q2, of_decide_eq_true q3, q4, of_decide_eq_true q5, of_decide_eq_true q6, of_decide_eq_true q7, of_decide_eq_true q8⟩,
    ⟨of_decide_eq_true q1, of_decide_eq_true q2, of_decide_eq_true q3, q4⟩⟩
def noB (K : Fr) (C : Addr) (fs : List Str) : Bool := fs.all fun f => decide (PySem.W.findIn K (.ref C) f = some none)
theorem noB_ok {C : Addr} {fs : List Str} (q : noB K C fs = true) : ∀ f ∈ fs, PySem.W.findIn K (.ref C) f = some none := fun f hf => of_decide_eq_true (List.all_eq_true.mp q f hf)
def cvB (K : Fr) (C : Addr) (f : Str) (i : Int) : Bool := match PySem.W.findCls K (.ref C) (.type "type") f with
  | some (.val (.int j _)) => decide (j = i)
  | _ => false
theorem cvB_ok {C : Addr} {f : Str} {i : Int} (q : cvB K C f i = true) : ∃ u, ClX.CVal K C (.type "type") f (.int i) u := by
  unfold cvB at q
  split at q
  · rename_i j t e
    have := of_decide_eq_true q
    subst this
    exact ⟨_, ⟨e, ⟨t, rfl⟩⟩⟩
  · cases q
def tpB (K : Fr) (a : Addr) : Bool := match K.lookup a with
  | some ⟨.type "tuple", _, .seq its _, _⟩ => its.toList.isEmpty
  | _ => false
theorem tpB_ok {a : Addr} (q : tpB K a = true) : TpK K a [] := by
  unfold tpB at q
  split at q
  · rename_i od its n sl e
    obtain ⟨l⟩ := its
    have : l = [] := by simpa using q
    subst this
    exact ⟨_, _, _, e, rfl, rfl, by decide, .nil⟩
  · cases q
def kitB2 (K : Fr) (xs ys : List Str) : Bool := xs.all fun x => ys.all fun y => decide (PySem.W.kitOne K (.ref (He.ga K x)) (.ref (He.ga K y)) = some (x == y))
theorem kitB2_ok {xs ys : List Str} (q : kitB2 K xs ys = true) : ∀ x ∈ xs, ∀ y ∈ ys, PySem.W.kitOne K (.ref (He.ga K x)) (.ref (He.ga K y)) = some (x == y) := fun x hx y hy => of_decide_eq_true (List.all_eq_true.mp (List.all_eq_true.mp q x hx) y hy)
def veB (K : Fr) (xs : List Str) : Bool := xs.all fun x => decide (PySem.W.kitOne K (.ref (He.ga K x)) (.type "ValueError") = some true) && decide (PySem.W.exmOne K (.ref (He.ga K x)) (.ref (He.ga K "Refused")) = some true)
theorem veB_ok {xs : List Str} (q : veB K xs = true) : ∀ x ∈ xs, PySem.W.kitOne K (.ref (He.ga K x)) (.type "ValueError") = some true ∧ PySem.W.exmOne K (.ref (He.ga K x)) (.ref (He.ga K "Refused")) = some true := fun x hx => by
  obtain ⟨a, b⟩ := bb (List.all_eq_true.mp q x hx)
  exact ⟨of_decide_eq_true a, of_decide_eq_true b⟩
def inB (K : Fr) (C : Addr) : Bool := decide (PySem.W.findIn K (.ref C) "__init__" = some (some (.ref (He.ma K C "__init__")))) && decide (PySem.W.typeIn K (.ref (He.ma K C "__init__")) = some (.type "function"))
theorem inB_ok {C : Addr} (q : inB K C = true) : PySem.W.findIn K (.ref C) "__init__" = some (some (.ref (He.ma K C "__init__"))) ∧ PySem.W.typeIn K (.ref (He.ma K C "__init__")) = some (.type "function") := by
  obtain ⟨a, b⟩ := bb q
  exact ⟨of_decide_eq_true a, of_decide_eq_true b⟩
end
theorem fund_same {K : Fr} {x qual : Str} {params : Arguments} {body : List Stmt} {scope : Scope} {dvs : List V} {kws : List (Str × V)} {f : Addr} {fd fd' : FuncData} (h : FunD K x qual params body scope dvs kws f fd) (h' : FunD K x qual params body scope dvs kws f fd') : fd = fd' := by
  obtain ⟨_, _, _, _, _, _, _, _, _, _, e, l, _⟩ := h.ex
  obtain ⟨_, _, _, _, _, _, _, _, _, _, e', l', _⟩ := h'.ex
  rw [l] at l'
  simp only [Option.some.injEq, Obj.mk.injEq, Data.func.injEq] at l'
  exact l'.2.2.1
theorem scr_start {K : Fr} {C : Ctr} {n : Nat} (hC : ∀ (ns : List Int) (Q : OD → List OD → Prop), ns.length ≤ n → Q (.st (.bl true)) [.st (.scr ns)] → C [.st (.scr ns)] Q fun _ _ _ => False) {H : Hp} {a : Addr} {ns : List Int} (hl : ns.length ≤ n) (hS : SqL K H a (ns.map V.int)) :
    VSp K C [.ref a] H (fun v _ => v = .bl true) fun _ _ _ => False := by
  refine ⟨H, [.st (.scr ns)], [], fun r os => r = .st (.bl true), fun _ _ _ => False, rfl, ?_, hC ns _ hl rfl, fun r os' S' v H' q s x => ?_, fun c fs os' S' d gs H' q => q.elim⟩
  · exact {
      sub := Sub.refl
      keep := fun a o e _ => e
      ioH := fun a h => nomatch h
      news := fun a h => .inl h
      grow := Sub.refl
      cls := ⟨[] ++ [], .cons (.st (.scr hS)) .nil, List.Pairwise.nil, fun a h => nomatch h⟩ }
  · subst q
    have r := x.rep
    cases r
    rfl
theorem law_end {l : PySem.W.OpenLaw} {n k : Nat} {q : Program} {loose : List Str} {XP : (Str → Option Value) → Heap → Prop} {YP : World → Heap → Prop} {d : DefRec} {st : Stmt} {C : Fr → Ctr}
    (hn : l.most = some n) (hn2 : n ≤ sizeLine) (hdf : d.params.defaults = []) (hr : Room k callerA) (hC : ∀ (K : Fr) (ns : List Int) (Q : OD → List OD → Prop), ns.length ≤ n → Q (.st (.bl true)) [.st (.scr ns)] → C K [.st (.scr ns)] Q fun _ _ _ => False)
    (hB : ∀ (kV doc pm : Value) (an : Option Addr) (cdv ct : Value) (us : List Value), us.length = 1 → bindArgs (PySem.W.fnOf d.name d.name (defArgs st) (defBody st) (defScope st) .none kV doc pm an cdv ct) ⟨us, []⟩ = pure ((["script"] : List Str).zip us))
    (F : ∀ (w : World) (mg : Str → Option Value) (fa : Addr) (h : Heap), YP w h → h.Ns mainGlobals mg → mg d.name = some (.ref fa) →
      ∃ K : Fr, K.In h ∧ fa = He.ga K d.name ∧ (∃ fd, FunD K d.name d.name (defArgs st) (defBody st) (defScope st) [] [] (He.ga K d.name) fd) ∧ ∀ base : Heap, K.In base → base.Ns mainGlobals mg → Okf l.prog w K mg base d.name st [] [] ["script"] k (C K)) :
    PySem.W.WalkO q loose XP YP l.row.toRowW d [] (fun f vs => PySem.call f vs) := by
  refine Att.attach_call hn hdf fun w z0 z1 mg mb fa ob m1 m2 m3 at_ vals ns Gr Yh o1 o2 o3 hmg hob his hlen hgs => ?_
  obtain ⟨K, KX, rfl, ⟨fd, Fd⟩, hF⟩ := F w mg fa _ Yh Gr.T.g hmg
  exact law_call KX Gr.T.g Gr.T.b Gr.T.builtins Gr.T.nolimit hgs hob his (Nat.le_trans hlen hn2) hr (fun base hb1 hb2 => by
      obtain ⟨fd', Fd', h1, _⟩ := hF base hb1 hb2
      have e := fund_same Fd' Fd
      subst e
      exact h1) (fun s u => Fd.bindsA (ps := ["script"]) hB s [u] rfl)
    (fun H _ hS => scr_start (hC K) hlen hS) fun H e s' z => by
      obtain ⟨_, _, _, _, _, _, _, _, _, _, _, _, z⟩ := z
      exact z
end VL
-- TK
set_option maxHeartbeats 0
namespace K80
open PySem PySem.Spec PyProof.Rows L2 VL
def hs (P : Params) (s : Str) : Int := if s.cps.isEmpty then 0 else reduceHash (P.strHash s.cps)
def kl0 (W : Params) : List (Addr × Obj) := [
  (3, ⟨(.type "dict"), none, (.dict ([⟨hs W (.ofString "__name__"), (.str (.ofString "__name__") 165), (.str (.ofString "law_lastslips_k80_fewest_starts") 1084)⟩, ⟨hs W (.ofString "__doc__"), (.str (.ofString "__doc__") 166), .none⟩, ⟨hs W (.ofString "__package__"), (.str (.ofString "__package__") 167), .none⟩, ⟨hs W (.ofString "__loader__"), (.str (.ofString "__loader__") 168), (.builtin "__main__.__loader__#opaque")⟩, ⟨hs W (.ofString "__spec__"), (.str (.ofString "__spec__") 169), .none⟩, ⟨hs W (.ofString "__annotations__"), (.str (.ofString "__annotations__") 170), (.ref 6)⟩, ⟨hs W (.ofString "__builtins__"), (.str (.ofString "__builtins__") 171), (.ref 4)⟩, ⟨hs W (.ofString "__file__"), (.str (.ofString "__file__") 173), (.str (.ofString "/claim/cut.py") 172)⟩, ⟨hs W (.ofString "__cached__"), (.str (.ofString "__cached__") 174), .none⟩, ⟨hs W (.ofString "_wall"), (.str (.ofString "_wall") 193), (.ref 21)⟩, ⟨hs W (.ofString "Refused"), (.str (.ofString "Refused") 213), (.ref 31)⟩, ⟨hs W (.ofString "BadText"), (.str (.ofString "BadText") 238), (.ref 51)⟩, ⟨hs W (.ofString "Malformed"), (.str (.ofString "Malformed") 263), (.ref 70)⟩, ⟨hs W (.ofString "BadStation"), (.str (.ofString "BadStation") 288), (.ref 89)⟩, ⟨hs W (.ofString "BadPlace"), (.str (.ofString "BadPlace") 315), (.ref 108)⟩, ⟨hs W (.ofString "BadNumber"), (.str (.ofString "BadNumber") 340), (.ref 127)⟩, ⟨hs W (.ofString "TooMany"), (.str (.ofString "TooMany") 367), (.ref 146)⟩, ⟨hs W (.ofString "Empty"), (.str (.ofString "Empty") 392), (.ref 165)⟩, ⟨hs W (.ofString "Unframed"), (.str (.ofString "Unframed") 417), (.ref 184)⟩, ⟨hs W (.ofString "NotPack"), (.str (.ofString "NotPack") 442), (.ref 203)⟩, ⟨hs W (.ofString "Unlike"), (.str (.ofString "Unlike") 467), (.ref 222)⟩, ⟨hs W (.ofString "Stuck"), (.str (.ofString "Stuck") 492), (.ref 241)⟩, ⟨hs W (.ofString "NothingBack"), (.str (.ofString "NothingBack") 508), (.ref 253)⟩, ⟨hs W (.ofString "LeftOver"), (.str (.ofString "LeftOver") 533), (.ref 272)⟩, ⟨hs W (.ofString "NotTrail"), (.str (.ofString "NotTrail") 558), (.ref 291)⟩, ⟨hs W (.ofString "Blocked"), (.str (.ofString "Blocked") 583), (.ref 310)⟩, ⟨hs W (.ofString "Unnamed"), (.str (.ofString "Unnamed") 599), (.ref 322)⟩, ⟨hs W (.ofString "Opened"), (.str (.ofString "Opened") 626), (.ref 341)⟩, ⟨hs W (.ofString "Missing"), (.str (.ofString "Missing") 651), (.ref 360)⟩, ⟨hs W (.ofString "NotLocal"), (.str (.ofString "NotLocal") 676), (.ref 379)⟩, ⟨hs W (.ofString "NoPlan"), (.str (.ofString "NoPlan") 701), (.ref 398)⟩, ⟨hs W (.ofString "Doubled"), (.str (.ofString "Doubled") 726), (.ref 417)⟩, ⟨hs W (.ofString "BadCard"), (.str (.ofString "BadCard") 751), (.ref 436)⟩, ⟨hs W (.ofString "Unknown"), (.str (.ofString "Unknown") 776), (.ref 455)⟩, ⟨hs W (.ofString "NotEnd"), (.str (.ofString "NotEnd") 801), (.ref 474)⟩, ⟨hs W (.ofString "MOST_STATIONS"), (.str (.ofString "MOST_STATIONS") 805), (.int (.ofNat 40) 804)⟩, ⟨hs W (.ofString "check_arrows"), (.str (.ofString "check_arrows") 813), (.ref 483)⟩, ⟨hs W (.ofString "check_index"), (.str (.ofString "check_index") 821), (.ref 490)⟩, ⟨hs W (.ofString "from_least"), (.str (.ofString "from_least") 829), (.ref 497)⟩, ⟨hs W (.ofString "rings_of"), (.str (.ofString "rings_of") 841), (.ref 504)⟩, ⟨hs W (.ofString "Deal"), (.str (.ofString "Deal") 918), (.ref 555)⟩, ⟨hs W (.ofString "check_station"), (.str (.ofString "check_station") 926), (.ref 566)⟩, ⟨hs W (.ofString "check_count"), (.str (.ofString "check_count") 933), (.ref 573)⟩, ⟨hs W (.ofString "check_pile"), (.str (.ofString "check_pile") 942), (.ref 580)⟩, ⟨hs W (.ofString "check_total"), (.str (.ofString "check_total") 949), (.ref 587)⟩, ⟨hs W (.ofString "check_piles"), (.str (.ofString "check_piles") 955), (.ref 592)⟩, ⟨hs W (.ofString "check_starts"), (.str (.ofString "check_starts") 964), (.ref 599)⟩, ⟨hs W (.ofString "tally_of"), (.str (.ofString "tally_of") 974), (.ref 606)⟩, ⟨hs W (.ofString "make_deal"), (.str (.ofString "make_deal") 982), (.ref 615)⟩, ⟨hs W (.ofString "sizes_of"), (.str (.ofString "sizes_of") 988), (.ref 620)⟩, ⟨hs W (.ofString "pack_of"), (.str (.ofString "pack_of") 994), (.ref 625)⟩, ⟨hs W (.ofString "bottoms"), (.str (.ofString "bottoms") 1002), (.ref 630)⟩, ⟨hs W (.ofString "last_slips"), (.str (.ofString "last_slips") 1009), (.ref 637)⟩, ⟨hs W (.ofString "take_step"), (.str (.ofString "take_step") 1023), (.ref 644)⟩, ⟨hs W (.ofString "run"), (.str (.ofString "run") 1037), (.ref 652)⟩, ⟨hs W (.ofString "comes_out"), (.str (.ofString "comes_out") 1043), (.ref 657)⟩, ⟨hs W (.ofString "lacks"), (.str (.ofString "lacks") 1051), (.ref 662)⟩, ⟨hs W (.ofString "lacking_rings"), (.str (.ofString "lacking_rings") 1061), (.ref 669)⟩, ⟨hs W (.ofString "fewest_starts"), (.str (.ofString "fewest_starts") 1069), (.ref 676)⟩, ⟨hs W (.ofString "best_starts"), (.str (.ofString "best_starts") 1075), (.ref 681)⟩, ⟨hs W (.ofString "judge_starts"), (.str (.ofString "judge_starts") 1083), (.ref 688)⟩, ⟨hs W (.ofString "_law_mix"), (.str (.ofString "_law_mix") 1098), (.ref 695)⟩, ⟨hs W (.ofString "_law_store"), (.str (.ofString "_law_store") 1113), (.ref 702)⟩, ⟨hs W (.ofString "_law_take"), (.str (.ofString "_law_take") 1126), (.ref 709)⟩, ⟨hs W (.ofString "_law_shuffled"), (.str (.ofString "_law_shuffled") 1138), (.ref 716)⟩, ⟨hs W (.ofString "_law_end_counts"), (.str (.ofString "_law_end_counts") 1144), (.ref 721)⟩, ⟨hs W (.ofString "_law_other_row"), (.str (.ofString "_law_other_row") 1150), (.ref 726)⟩, ⟨hs W (.ofString "_law_same"), (.str (.ofString "_law_same") 1163), (.ref 733)⟩, ⟨hs W (.ofString "_law_same_leaf"), (.str (.ofString "_law_same_leaf") 1171), (.ref 740)⟩, ⟨hs W (.ofString "_law_pack_of"), (.str (.ofString "_law_pack_of") 1177), (.ref 745)⟩, ⟨hs W (.ofString "_law_run"), (.str (.ofString "_law_run") 1183), (.ref 750)⟩, ⟨hs W (.ofString "_law_aim_row"), (.str (.ofString "_law_aim_row") 1189), (.ref 755)⟩, ⟨hs W (.ofString "_law_ring_rows"), (.str (.ofString "_law_ring_rows") 1201), (.ref 762)⟩, ⟨hs W (.ofString "_law_seats"), (.str (.ofString "_law_seats") 1207), (.ref 767)⟩, ⟨hs W (.ofString "_law_class_of"), (.str (.ofString "_law_class_of") 1213), (.ref 772)⟩, ⟨hs W (.ofString "_law_refusal_of"), (.str (.ofString "_law_refusal_of") 1221), (.ref 779)⟩, ⟨hs W (.ofString "_law_ask"), (.str (.ofString "_law_ask") 1231), (.ref 786)⟩, ⟨hs W (.ofString "_law_told"), (.str (.ofString "_law_told") 1240), (.ref 793)⟩, ⟨hs W (.ofString "_law_takes_all"), (.str (.ofString "_law_takes_all") 1246), (.ref 798)⟩, ⟨hs W (.ofString "_law_least"), (.str (.ofString "_law_least") 1258), (.ref 805)⟩, ⟨hs W (.ofString "_law_rule"), (.str (.ofString "_law_rule") 1269), (.ref 812)⟩, ⟨hs W (.ofString "_law_judged"), (.str (.ofString "_law_judged") 1279), (.ref 819)⟩, ⟨hs W (.ofString "_law_rows_of_starts"), (.str (.ofString "_law_rows_of_starts") 1285), (.ref 824)⟩, ⟨hs W (.ofString "_law_odd"), (.str (.ofString "_law_odd") 1293), (.ref 831)⟩, ⟨hs W (.ofString "_law_odd_piles"), (.str (.ofString "_law_odd_piles") 1299), (.ref 836)⟩, ⟨hs W (.ofString "_law_trouble"), (.str (.ofString "_law_trouble") 1305), (.ref 841)⟩, ⟨hs W (.ofString "law"), (.str (.ofString "law") 1311), (.ref 846)⟩]).toArray 87), ([]).toArray⟩),
  (2, ⟨.none, none, (.dict ([]).toArray 0), ([]).toArray⟩),
  (6, ⟨(.type "dict"), none, (.dict ([]).toArray 0), ([]).toArray⟩),
  (4, ⟨(.type "module"), (some 0), .plain, ([]).toArray⟩),
  (21, ⟨(.type "function"), none, (.func ⟨(.ofString "_wall"), (.ofString "_wall"), (defArgs (top 0)), (FuncBody.stmts <| defBody (top 0)), (defScope (top 0)), 3, [], .none, .none, .none, (.str (.ofString "__main__") 164), none, (.ref 20), .none, 0⟩), ([]).toArray⟩),
  (31, ⟨(.type "type"), none, (.cls ⟨(.ofString "Refused"), [(.type "ValueError")], [(.ref 31), (.type "ValueError"), (.type "Exception"), (.type "BaseException"), (.type "object")], 30, (.ofString "Refused"), true, [], [(.ref 51), (.ref 70), (.ref 89), (.ref 108), (.ref 127), (.ref 146), (.ref 165), (.ref 184), (.ref 203), (.ref 222), (.ref 241), (.ref 253), (.ref 272), (.ref 291), (.ref 310), (.ref 322), (.ref 341), (.ref 360), (.ref 379), (.ref 398), (.ref 417), (.ref 436), (.ref 455), (.ref 474)], false, none, false⟩), ([(some (.ref 22)), none, (some (.str (.ofString "Refused") 196)), (some (.str (.ofString "Refused") 204)), (some (.builtin "ValueError.__new__")), (some (.bool true))]).toArray⟩),
  (51, ⟨(.type "type"), none, (.cls ⟨(.ofString "BadText"), [(.ref 31)], [(.ref 51), (.ref 31), (.type "ValueError"), (.type "Exception"), (.type "BaseException"), (.type "object")], 50, (.ofString "BadText"), true, [], [], false, none, false⟩), ([(some (.ref 35)), none, (some (.str (.ofString "BadText") 214)), (some (.str (.ofString "BadText") 222)), (some (.builtin "ValueError.__new__")), (some (.bool true))]).toArray⟩),
  (70, ⟨(.type "type"), none, (.cls ⟨(.ofString "Malformed"), [(.ref 31)], [(.ref 70), (.ref 31), (.type "ValueError"), (.type "Exception"), (.type "BaseException"), (.type "object")], 69, (.ofString "Malformed"), true, [], [], false, none, false⟩), ([(some (.ref 54)), none, (some (.str (.ofString "Malformed") 239)), (some (.str (.ofString "Malformed") 247)), (some (.builtin "ValueError.__new__")), (some (.bool true))]).toArray⟩),
  (89, ⟨(.type "type"), none, (.cls ⟨(.ofString "BadStation"), [(.ref 31)], [(.ref 89), (.ref 31), (.type "ValueError"), (.type "Exception"), (.type "BaseException"), (.type "object")], 88, (.ofString "BadStation"), true, [], [], false, none, false⟩), ([(some (.ref 73)), none, (some (.str (.ofString "BadStation") 264)), (some (.str (.ofString "BadStation") 272)), (some (.builtin "ValueError.__new__")), (some (.bool true))]).toArray⟩),
  (108, ⟨(.type "type"), none, (.cls ⟨(.ofString "BadPlace"), [(.ref 31)], [(.ref 108), (.ref 31), (.type "ValueError"), (.type "Exception"), (.type "BaseException"), (.type "object")], 107, (.ofString "BadPlace"), true, [], [], false, none, false⟩), ([(some (.ref 92)), none, (some (.str (.ofString "BadPlace") 289)), (some (.str (.ofString "BadPlace") 297)), (some (.builtin "ValueError.__new__")), (some (.bool true))]).toArray⟩),
  (127, ⟨(.type "type"), none, (.cls ⟨(.ofString "BadNumber"), [(.ref 31)], [(.ref 127), (.ref 31), (.type "ValueError"), (.type "Exception"), (.type "BaseException"), (.type "object")], 126, (.ofString "BadNumber"), true, [], [], false, none, false⟩), ([(some (.ref 111)), none, (some (.str (.ofString "BadNumber") 316)), (some (.str (.ofString "BadNumber") 324)), (some (.builtin "ValueError.__new__")), (some (.bool true))]).toArray⟩),
  (146, ⟨(.type "type"), none, (.cls ⟨(.ofString "TooMany"), [(.ref 31)], [(.ref 146), (.ref 31), (.type "ValueError"), (.type "Exception"), (.type "BaseException"), (.type "object")], 145, (.ofString "TooMany"), true, [], [], false, none, false⟩), ([(some (.ref 130)), none, (some (.str (.ofString "TooMany") 341)), (some (.str (.ofString "TooMany") 349)), (some (.builtin "ValueError.__new__")), (some (.bool true))]).toArray⟩)]
def ad0 : List Addr := [3, 2, 6, 4, 21, 31, 51, 70, 89, 108, 127, 146]
def kl1 (W : Params) : List (Addr × Obj) := [
  (165, ⟨(.type "type"), none, (.cls ⟨(.ofString "Empty"), [(.ref 31)], [(.ref 165), (.ref 31), (.type "ValueError"), (.type "Exception"), (.type "BaseException"), (.type "object")], 164, (.ofString "Empty"), true, [], [], false, none, false⟩), ([(some (.ref 149)), none, (some (.str (.ofString "Empty") 368)), (some (.str (.ofString "Empty") 376)), (some (.builtin "ValueError.__new__")), (some (.bool true))]).toArray⟩),
  (184, ⟨(.type "type"), none, (.cls ⟨(.ofString "Unframed"), [(.ref 31)], [(.ref 184), (.ref 31), (.type "ValueError"), (.type "Exception"), (.type "BaseException"), (.type "object")], 183, (.ofString "Unframed"), true, [], [], false, none, false⟩), ([(some (.ref 168)), none, (some (.str (.ofString "Unframed") 393)), (some (.str (.ofString "Unframed") 401)), (some (.builtin "ValueError.__new__")), (some (.bool true))]).toArray⟩),
  (203, ⟨(.type "type"), none, (.cls ⟨(.ofString "NotPack"), [(.ref 31)], [(.ref 203), (.ref 31), (.type "ValueError"), (.type "Exception"), (.type "BaseException"), (.type "object")], 202, (.ofString "NotPack"), true, [], [], false, none, false⟩), ([(some (.ref 187)), none, (some (.str (.ofString "NotPack") 418)), (some (.str (.ofString "NotPack") 426)), (some (.builtin "ValueError.__new__")), (some (.bool true))]).toArray⟩),
  (222, ⟨(.type "type"), none, (.cls ⟨(.ofString "Unlike"), [(.ref 31)], [(.ref 222), (.ref 31), (.type "ValueError"), (.type "Exception"), (.type "BaseException"), (.type "object")], 221, (.ofString "Unlike"), true, [], [], false, none, false⟩), ([(some (.ref 206)), none, (some (.str (.ofString "Unlike") 443)), (some (.str (.ofString "Unlike") 451)), (some (.builtin "ValueError.__new__")), (some (.bool true))]).toArray⟩),
  (241, ⟨(.type "type"), none, (.cls ⟨(.ofString "Stuck"), [(.ref 31)], [(.ref 241), (.ref 31), (.type "ValueError"), (.type "Exception"), (.type "BaseException"), (.type "object")], 240, (.ofString "Stuck"), true, [], [], false, none, false⟩), ([(some (.ref 225)), none, (some (.str (.ofString "Stuck") 468)), (some (.str (.ofString "Stuck") 476)), (some (.builtin "ValueError.__new__")), (some (.bool true))]).toArray⟩),
  (253, ⟨(.type "type"), none, (.cls ⟨(.ofString "NothingBack"), [(.ref 31)], [(.ref 253), (.ref 31), (.type "ValueError"), (.type "Exception"), (.type "BaseException"), (.type "object")], 252, (.ofString "NothingBack"), true, [], [], false, none, false⟩), ([(some (.ref 244)), none, (some (.str (.ofString "NothingBack") 493)), (some (.str (.ofString "NothingBack") 501)), (some (.builtin "ValueError.__new__")), (some (.bool true))]).toArray⟩),
  (272, ⟨(.type "type"), none, (.cls ⟨(.ofString "LeftOver"), [(.ref 31)], [(.ref 272), (.ref 31), (.type "ValueError"), (.type "Exception"), (.type "BaseException"), (.type "object")], 271, (.ofString "LeftOver"), true, [], [], false, none, false⟩), ([(some (.ref 256)), none, (some (.str (.ofString "LeftOver") 509)), (some (.str (.ofString "LeftOver") 517)), (some (.builtin "ValueError.__new__")), (some (.bool true))]).toArray⟩),
  (291, ⟨(.type "type"), none, (.cls ⟨(.ofString "NotTrail"), [(.ref 31)], [(.ref 291), (.ref 31), (.type "ValueError"), (.type "Exception"), (.type "BaseException"), (.type "object")], 290, (.ofString "NotTrail"), true, [], [], false, none, false⟩), ([(some (.ref 275)), none, (some (.str (.ofString "NotTrail") 534)), (some (.str (.ofString "NotTrail") 542)), (some (.builtin "ValueError.__new__")), (some (.bool true))]).toArray⟩),
  (310, ⟨(.type "type"), none, (.cls ⟨(.ofString "Blocked"), [(.ref 31)], [(.ref 310), (.ref 31), (.type "ValueError"), (.type "Exception"), (.type "BaseException"), (.type "object")], 309, (.ofString "Blocked"), true, [], [], false, none, false⟩), ([(some (.ref 294)), none, (some (.str (.ofString "Blocked") 559)), (some (.str (.ofString "Blocked") 567)), (some (.builtin "ValueError.__new__")), (some (.bool true))]).toArray⟩),
  (322, ⟨(.type "type"), none, (.cls ⟨(.ofString "Unnamed"), [(.ref 31)], [(.ref 322), (.ref 31), (.type "ValueError"), (.type "Exception"), (.type "BaseException"), (.type "object")], 321, (.ofString "Unnamed"), true, [], [], false, none, false⟩), ([(some (.ref 313)), none, (some (.str (.ofString "Unnamed") 584)), (some (.str (.ofString "Unnamed") 592)), (some (.builtin "ValueError.__new__")), (some (.bool true))]).toArray⟩),
  (341, ⟨(.type "type"), none, (.cls ⟨(.ofString "Opened"), [(.ref 31)], [(.ref 341), (.ref 31), (.type "ValueError"), (.type "Exception"), (.type "BaseException"), (.type "object")], 340, (.ofString "Opened"), true, [], [], false, none, false⟩), ([(some (.ref 325)), none, (some (.str (.ofString "Opened") 600)), (some (.str (.ofString "Opened") 608)), (some (.builtin "ValueError.__new__")), (some (.bool true))]).toArray⟩),
  (360, ⟨(.type "type"), none, (.cls ⟨(.ofString "Missing"), [(.ref 31)], [(.ref 360), (.ref 31), (.type "ValueError"), (.type "Exception"), (.type "BaseException"), (.type "object")], 359, (.ofString "Missing"), true, [], [], false, none, false⟩), ([(some (.ref 344)), none, (some (.str (.ofString "Missing") 627)), (some (.str (.ofString "Missing") 635)), (some (.builtin "ValueError.__new__")), (some (.bool true))]).toArray⟩)]
def ad1 : List Addr := [165, 184, 203, 222, 241, 253, 272, 291, 310, 322, 341, 360]
def kl2 (W : Params) : List (Addr × Obj) := [
  (379, ⟨(.type "type"), none, (.cls ⟨(.ofString "NotLocal"), [(.ref 31)], [(.ref 379), (.ref 31), (.type "ValueError"), (.type "Exception"), (.type "BaseException"), (.type "object")], 378, (.ofString "NotLocal"), true, [], [], false, none, false⟩), ([(some (.ref 363)), none, (some (.str (.ofString "NotLocal") 652)), (some (.str (.ofString "NotLocal") 660)), (some (.builtin "ValueError.__new__")), (some (.bool true))]).toArray⟩),
  (398, ⟨(.type "type"), none, (.cls ⟨(.ofString "NoPlan"), [(.ref 31)], [(.ref 398), (.ref 31), (.type "ValueError"), (.type "Exception"), (.type "BaseException"), (.type "object")], 397, (.ofString "NoPlan"), true, [], [], false, none, false⟩), ([(some (.ref 382)), none, (some (.str (.ofString "NoPlan") 677)), (some (.str (.ofString "NoPlan") 685)), (some (.builtin "ValueError.__new__")), (some (.bool true))]).toArray⟩),
  (417, ⟨(.type "type"), none, (.cls ⟨(.ofString "Doubled"), [(.ref 31)], [(.ref 417), (.ref 31), (.type "ValueError"), (.type "Exception"), (.type "BaseException"), (.type "object")], 416, (.ofString "Doubled"), true, [], [], false, none, false⟩), ([(some (.ref 401)), none, (some (.str (.ofString "Doubled") 702)), (some (.str (.ofString "Doubled") 710)), (some (.builtin "ValueError.__new__")), (some (.bool true))]).toArray⟩),
  (436, ⟨(.type "type"), none, (.cls ⟨(.ofString "BadCard"), [(.ref 31)], [(.ref 436), (.ref 31), (.type "ValueError"), (.type "Exception"), (.type "BaseException"), (.type "object")], 435, (.ofString "BadCard"), true, [], [], false, none, false⟩), ([(some (.ref 420)), none, (some (.str (.ofString "BadCard") 727)), (some (.str (.ofString "BadCard") 735)), (some (.builtin "ValueError.__new__")), (some (.bool true))]).toArray⟩),
  (455, ⟨(.type "type"), none, (.cls ⟨(.ofString "Unknown"), [(.ref 31)], [(.ref 455), (.ref 31), (.type "ValueError"), (.type "Exception"), (.type "BaseException"), (.type "object")], 454, (.ofString "Unknown"), true, [], [], false, none, false⟩), ([(some (.ref 439)), none, (some (.str (.ofString "Unknown") 752)), (some (.str (.ofString "Unknown") 760)), (some (.builtin "ValueError.__new__")), (some (.bool true))]).toArray⟩),
  (474, ⟨(.type "type"), none, (.cls ⟨(.ofString "NotEnd"), [(.ref 31)], [(.ref 474), (.ref 31), (.type "ValueError"), (.type "Exception"), (.type "BaseException"), (.type "object")], 473, (.ofString "NotEnd"), true, [], [], false, none, false⟩), ([(some (.ref 458)), none, (some (.str (.ofString "NotEnd") 777)), (some (.str (.ofString "NotEnd") 785)), (some (.builtin "ValueError.__new__")), (some (.bool true))]).toArray⟩),
  (483, ⟨(.type "function"), none, (.func ⟨(.ofString "check_arrows"), (.ofString "check_arrows"), (defArgs (top 29)), (FuncBody.stmts <| defBody (top 29)), (defScope (top 29)), 3, [], .none, .none, .none, (.str (.ofString "lastslips.arrows") 802), none, (.ref 482), .none, 0⟩), ([]).toArray⟩),
  (490, ⟨(.type "function"), none, (.func ⟨(.ofString "check_index"), (.ofString "check_index"), (defArgs (top 30)), (FuncBody.stmts <| defBody (top 30)), (defScope (top 30)), 3, [], .none, .none, .none, (.str (.ofString "lastslips.arrows") 802), none, (.ref 489), .none, 0⟩), ([]).toArray⟩),
  (497, ⟨(.type "function"), none, (.func ⟨(.ofString "from_least"), (.ofString "from_least"), (defArgs (top 31)), (FuncBody.stmts <| defBody (top 31)), (defScope (top 31)), 3, [], .none, .none, .none, (.str (.ofString "lastslips.arrows") 802), none, (.ref 496), .none, 0⟩), ([]).toArray⟩),
  (504, ⟨(.type "function"), none, (.func ⟨(.ofString "rings_of"), (.ofString "rings_of"), (defArgs (top 32)), (FuncBody.stmts <| defBody (top 32)), (defScope (top 32)), 3, [], .none, .none, .none, (.str (.ofString "lastslips.arrows") 802), none, (.ref 503), .none, 0⟩), ([]).toArray⟩),
  (555, ⟨(.type "type"), none, (.cls ⟨(.ofString "Deal"), [(.type "object")], [(.ref 555), (.type "object")], 554, (.ofString "Deal"), true, [], [], false, none, false⟩), ([none, none, (some (.str (.ofString "Deal") 844)), (some (.str (.ofString "Deal") 852)), (some (.builtin "object.__new__")), (some (.bool true))]).toArray⟩),
  (566, ⟨(.type "function"), none, (.func ⟨(.ofString "check_station"), (.ofString "check_station"), (defArgs (top 35)), (FuncBody.stmts <| defBody (top 35)), (defScope (top 35)), 3, [], .none, .none, .none, (.str (.ofString "lastslips.deal") 842), none, (.ref 565), .none, 0⟩), ([]).toArray⟩)]
def ad2 : List Addr := [379, 398, 417, 436, 455, 474, 483, 490, 497, 504, 555, 566]
def kl3 (W : Params) : List (Addr × Obj) := [
  (573, ⟨(.type "function"), none, (.func ⟨(.ofString "check_count"), (.ofString "check_count"), (defArgs (top 36)), (FuncBody.stmts <| defBody (top 36)), (defScope (top 36)), 3, [], .none, .none, .none, (.str (.ofString "lastslips.deal") 842), none, (.ref 572), .none, 0⟩), ([]).toArray⟩),
  (580, ⟨(.type "function"), none, (.func ⟨(.ofString "check_pile"), (.ofString "check_pile"), (defArgs (top 37)), (FuncBody.stmts <| defBody (top 37)), (defScope (top 37)), 3, [], .none, .none, .none, (.str (.ofString "lastslips.deal") 842), none, (.ref 579), .none, 0⟩), ([]).toArray⟩),
  (587, ⟨(.type "function"), none, (.func ⟨(.ofString "check_total"), (.ofString "check_total"), (defArgs (top 38)), (FuncBody.stmts <| defBody (top 38)), (defScope (top 38)), 3, [], .none, .none, .none, (.str (.ofString "lastslips.deal") 842), none, (.ref 586), .none, 0⟩), ([]).toArray⟩),
  (592, ⟨(.type "function"), none, (.func ⟨(.ofString "check_piles"), (.ofString "check_piles"), (defArgs (top 39)), (FuncBody.stmts <| defBody (top 39)), (defScope (top 39)), 3, [], .none, .none, .none, (.str (.ofString "lastslips.deal") 842), none, (.ref 591), .none, 0⟩), ([]).toArray⟩),
  (599, ⟨(.type "function"), none, (.func ⟨(.ofString "check_starts"), (.ofString "check_starts"), (defArgs (top 40)), (FuncBody.stmts <| defBody (top 40)), (defScope (top 40)), 3, [], .none, .none, .none, (.str (.ofString "lastslips.deal") 842), none, (.ref 598), .none, 0⟩), ([]).toArray⟩),
  (606, ⟨(.type "function"), none, (.func ⟨(.ofString "tally_of"), (.ofString "tally_of"), (defArgs (top 41)), (FuncBody.stmts <| defBody (top 41)), (defScope (top 41)), 3, [], .none, .none, .none, (.str (.ofString "lastslips.deal") 842), none, (.ref 605), .none, 0⟩), ([]).toArray⟩),
  (615, ⟨(.type "function"), none, (.func ⟨(.ofString "make_deal"), (.ofString "make_deal"), (defArgs (top 42)), (FuncBody.stmts <| defBody (top 42)), (defScope (top 42)), 3, [], (.ref 608), .none, .none, (.str (.ofString "lastslips.deal") 842), none, (.ref 614), .none, 0⟩), ([]).toArray⟩),
  (620, ⟨(.type "function"), none, (.func ⟨(.ofString "sizes_of"), (.ofString "sizes_of"), (defArgs (top 43)), (FuncBody.stmts <| defBody (top 43)), (defScope (top 43)), 3, [], .none, .none, .none, (.str (.ofString "lastslips.deal") 842), none, (.ref 619), .none, 0⟩), ([]).toArray⟩),
  (625, ⟨(.type "function"), none, (.func ⟨(.ofString "pack_of"), (.ofString "pack_of"), (defArgs (top 44)), (FuncBody.stmts <| defBody (top 44)), (defScope (top 44)), 3, [], .none, .none, .none, (.str (.ofString "lastslips.deal") 842), none, (.ref 624), .none, 0⟩), ([]).toArray⟩),
  (630, ⟨(.type "function"), none, (.func ⟨(.ofString "bottoms"), (.ofString "bottoms"), (defArgs (top 46)), (FuncBody.stmts <| defBody (top 46)), (defScope (top 46)), 3, [], .none, .none, .none, (.str (.ofString "lastslips.last") 995), none, (.ref 629), .none, 0⟩), ([]).toArray⟩),
  (637, ⟨(.type "function"), none, (.func ⟨(.ofString "last_slips"), (.ofString "last_slips"), (defArgs (top 47)), (FuncBody.stmts <| defBody (top 47)), (defScope (top 47)), 3, [], .none, .none, .none, (.str (.ofString "lastslips.last") 995), none, (.ref 636), .none, 0⟩), ([]).toArray⟩),
  (644, ⟨(.type "function"), none, (.func ⟨(.ofString "take_step"), (.ofString "take_step"), (defArgs (top 49)), (FuncBody.stmts <| defBody (top 49)), (defScope (top 49)), 3, [], .none, .none, .none, (.str (.ofString "lastslips.play") 1010), none, (.ref 643), .none, 0⟩), ([]).toArray⟩)]
def ad3 : List Addr := [573, 580, 587, 592, 599, 606, 615, 620, 625, 630, 637, 644]
def kl4 (W : Params) : List (Addr × Obj) := [
  (652, ⟨(.type "function"), none, (.func ⟨(.ofString "run"), (.ofString "run"), (defArgs (top 50)), (FuncBody.stmts <| defBody (top 50)), (defScope (top 50)), 3, [], .none, (.ref 645), .none, (.str (.ofString "lastslips.play") 1010), none, (.ref 651), .none, 0⟩), ([]).toArray⟩),
  (657, ⟨(.type "function"), none, (.func ⟨(.ofString "comes_out"), (.ofString "comes_out"), (defArgs (top 51)), (FuncBody.stmts <| defBody (top 51)), (defScope (top 51)), 3, [], .none, .none, .none, (.str (.ofString "lastslips.play") 1010), none, (.ref 656), .none, 0⟩), ([]).toArray⟩),
  (662, ⟨(.type "function"), none, (.func ⟨(.ofString "lacks"), (.ofString "lacks"), (defArgs (top 53)), (FuncBody.stmts <| defBody (top 53)), (defScope (top 53)), 3, [], .none, .none, .none, (.str (.ofString "lastslips.crew") 1044), none, (.ref 661), .none, 0⟩), ([]).toArray⟩),
  (669, ⟨(.type "function"), none, (.func ⟨(.ofString "lacking_rings"), (.ofString "lacking_rings"), (defArgs (top 54)), (FuncBody.stmts <| defBody (top 54)), (defScope (top 54)), 3, [], .none, .none, .none, (.str (.ofString "lastslips.crew") 1044), none, (.ref 668), .none, 0⟩), ([]).toArray⟩),
  (676, ⟨(.type "function"), none, (.func ⟨(.ofString "fewest_starts"), (.ofString "fewest_starts"), (defArgs (top 55)), (FuncBody.stmts <| defBody (top 55)), (defScope (top 55)), 3, [], .none, .none, .none, (.str (.ofString "lastslips.crew") 1044), none, (.ref 675), .none, 0⟩), ([]).toArray⟩),
  (681, ⟨(.type "function"), none, (.func ⟨(.ofString "best_starts"), (.ofString "best_starts"), (defArgs (top 56)), (FuncBody.stmts <| defBody (top 56)), (defScope (top 56)), 3, [], .none, .none, .none, (.str (.ofString "lastslips.crew") 1044), none, (.ref 680), .none, 0⟩), ([]).toArray⟩),
  (688, ⟨(.type "function"), none, (.func ⟨(.ofString "judge_starts"), (.ofString "judge_starts"), (defArgs (top 57)), (FuncBody.stmts <| defBody (top 57)), (defScope (top 57)), 3, [], .none, .none, .none, (.str (.ofString "lastslips.crew") 1044), none, (.ref 687), .none, 0⟩), ([]).toArray⟩),
  (695, ⟨(.type "function"), none, (.func ⟨(.ofString "_law_mix"), (.ofString "_law_mix"), (defArgs (top 59)), (FuncBody.stmts <| defBody (top 59)), (defScope (top 59)), 3, [], .none, .none, .none, (.str (.ofString "law_lastslips_k80_fewest_starts") 1084), none, (.ref 694), .none, 0⟩), ([]).toArray⟩),
  (702, ⟨(.type "function"), none, (.func ⟨(.ofString "_law_store"), (.ofString "_law_store"), (defArgs (top 60)), (FuncBody.stmts <| defBody (top 60)), (defScope (top 60)), 3, [], .none, .none, .none, (.str (.ofString "law_lastslips_k80_fewest_starts") 1084), none, (.ref 701), .none, 0⟩), ([]).toArray⟩),
  (709, ⟨(.type "function"), none, (.func ⟨(.ofString "_law_take"), (.ofString "_law_take"), (defArgs (top 61)), (FuncBody.stmts <| defBody (top 61)), (defScope (top 61)), 3, [], .none, .none, .none, (.str (.ofString "law_lastslips_k80_fewest_starts") 1084), none, (.ref 708), .none, 0⟩), ([]).toArray⟩),
  (716, ⟨(.type "function"), none, (.func ⟨(.ofString "_law_shuffled"), (.ofString "_law_shuffled"), (defArgs (top 62)), (FuncBody.stmts <| defBody (top 62)), (defScope (top 62)), 3, [], .none, .none, .none, (.str (.ofString "law_lastslips_k80_fewest_starts") 1084), none, (.ref 715), .none, 0⟩), ([]).toArray⟩),
  (721, ⟨(.type "function"), none, (.func ⟨(.ofString "_law_end_counts"), (.ofString "_law_end_counts"), (defArgs (top 63)), (FuncBody.stmts <| defBody (top 63)), (defScope (top 63)), 3, [], .none, .none, .none, (.str (.ofString "law_lastslips_k80_fewest_starts") 1084), none, (.ref 720), .none, 0⟩), ([]).toArray⟩)]
def ad4 : List Addr := [652, 657, 662, 669, 676, 681, 688, 695, 702, 709, 716, 721]
def kl5 (W : Params) : List (Addr × Obj) := [
  (726, ⟨(.type "function"), none, (.func ⟨(.ofString "_law_other_row"), (.ofString "_law_other_row"), (defArgs (top 64)), (FuncBody.stmts <| defBody (top 64)), (defScope (top 64)), 3, [], .none, .none, .none, (.str (.ofString "law_lastslips_k80_fewest_starts") 1084), none, (.ref 725), .none, 0⟩), ([]).toArray⟩),
  (733, ⟨(.type "function"), none, (.func ⟨(.ofString "_law_same"), (.ofString "_law_same"), (defArgs (top 65)), (FuncBody.stmts <| defBody (top 65)), (defScope (top 65)), 3, [], .none, .none, .none, (.str (.ofString "law_lastslips_k80_fewest_starts") 1084), none, (.ref 732), .none, 0⟩), ([]).toArray⟩),
  (740, ⟨(.type "function"), none, (.func ⟨(.ofString "_law_same_leaf"), (.ofString "_law_same_leaf"), (defArgs (top 66)), (FuncBody.stmts <| defBody (top 66)), (defScope (top 66)), 3, [], .none, .none, .none, (.str (.ofString "law_lastslips_k80_fewest_starts") 1084), none, (.ref 739), .none, 0⟩), ([]).toArray⟩),
  (745, ⟨(.type "function"), none, (.func ⟨(.ofString "_law_pack_of"), (.ofString "_law_pack_of"), (defArgs (top 67)), (FuncBody.stmts <| defBody (top 67)), (defScope (top 67)), 3, [], .none, .none, .none, (.str (.ofString "law_lastslips_k80_fewest_starts") 1084), none, (.ref 744), .none, 0⟩), ([]).toArray⟩),
  (750, ⟨(.type "function"), none, (.func ⟨(.ofString "_law_run"), (.ofString "_law_run"), (defArgs (top 68)), (FuncBody.stmts <| defBody (top 68)), (defScope (top 68)), 3, [], .none, .none, .none, (.str (.ofString "law_lastslips_k80_fewest_starts") 1084), none, (.ref 749), .none, 0⟩), ([]).toArray⟩),
  (755, ⟨(.type "function"), none, (.func ⟨(.ofString "_law_aim_row"), (.ofString "_law_aim_row"), (defArgs (top 69)), (FuncBody.stmts <| defBody (top 69)), (defScope (top 69)), 3, [], .none, .none, .none, (.str (.ofString "law_lastslips_k80_fewest_starts") 1084), none, (.ref 754), .none, 0⟩), ([]).toArray⟩),
  (762, ⟨(.type "function"), none, (.func ⟨(.ofString "_law_ring_rows"), (.ofString "_law_ring_rows"), (defArgs (top 70)), (FuncBody.stmts <| defBody (top 70)), (defScope (top 70)), 3, [], .none, .none, .none, (.str (.ofString "law_lastslips_k80_fewest_starts") 1084), none, (.ref 761), .none, 0⟩), ([]).toArray⟩),
  (767, ⟨(.type "function"), none, (.func ⟨(.ofString "_law_seats"), (.ofString "_law_seats"), (defArgs (top 71)), (FuncBody.stmts <| defBody (top 71)), (defScope (top 71)), 3, [], .none, .none, .none, (.str (.ofString "law_lastslips_k80_fewest_starts") 1084), none, (.ref 766), .none, 0⟩), ([]).toArray⟩),
  (772, ⟨(.type "function"), none, (.func ⟨(.ofString "_law_class_of"), (.ofString "_law_class_of"), (defArgs (top 72)), (FuncBody.stmts <| defBody (top 72)), (defScope (top 72)), 3, [], .none, .none, .none, (.str (.ofString "law_lastslips_k80_fewest_starts") 1084), none, (.ref 771), .none, 0⟩), ([]).toArray⟩),
  (779, ⟨(.type "function"), none, (.func ⟨(.ofString "_law_refusal_of"), (.ofString "_law_refusal_of"), (defArgs (top 73)), (FuncBody.stmts <| defBody (top 73)), (defScope (top 73)), 3, [], .none, .none, .none, (.str (.ofString "law_lastslips_k80_fewest_starts") 1084), none, (.ref 778), .none, 0⟩), ([]).toArray⟩),
  (786, ⟨(.type "function"), none, (.func ⟨(.ofString "_law_ask"), (.ofString "_law_ask"), (defArgs (top 74)), (FuncBody.stmts <| defBody (top 74)), (defScope (top 74)), 3, [], .none, .none, .none, (.str (.ofString "law_lastslips_k80_fewest_starts") 1084), none, (.ref 785), .none, 0⟩), ([]).toArray⟩),
  (793, ⟨(.type "function"), none, (.func ⟨(.ofString "_law_told"), (.ofString "_law_told"), (defArgs (top 75)), (FuncBody.stmts <| defBody (top 75)), (defScope (top 75)), 3, [], .none, .none, .none, (.str (.ofString "law_lastslips_k80_fewest_starts") 1084), none, (.ref 792), .none, 0⟩), ([]).toArray⟩)]
def ad5 : List Addr := [726, 733, 740, 745, 750, 755, 762, 767, 772, 779, 786, 793]
def kl6 (W : Params) : List (Addr × Obj) := [
  (798, ⟨(.type "function"), none, (.func ⟨(.ofString "_law_takes_all"), (.ofString "_law_takes_all"), (defArgs (top 76)), (FuncBody.stmts <| defBody (top 76)), (defScope (top 76)), 3, [], .none, .none, .none, (.str (.ofString "law_lastslips_k80_fewest_starts") 1084), none, (.ref 797), .none, 0⟩), ([]).toArray⟩),
  (805, ⟨(.type "function"), none, (.func ⟨(.ofString "_law_least"), (.ofString "_law_least"), (defArgs (top 77)), (FuncBody.stmts <| defBody (top 77)), (defScope (top 77)), 3, [], .none, .none, .none, (.str (.ofString "law_lastslips_k80_fewest_starts") 1084), none, (.ref 804), .none, 0⟩), ([]).toArray⟩),
  (812, ⟨(.type "function"), none, (.func ⟨(.ofString "_law_rule"), (.ofString "_law_rule"), (defArgs (top 78)), (FuncBody.stmts <| defBody (top 78)), (defScope (top 78)), 3, [], .none, .none, .none, (.str (.ofString "law_lastslips_k80_fewest_starts") 1084), none, (.ref 811), .none, 0⟩), ([]).toArray⟩),
  (819, ⟨(.type "function"), none, (.func ⟨(.ofString "_law_judged"), (.ofString "_law_judged"), (defArgs (top 79)), (FuncBody.stmts <| defBody (top 79)), (defScope (top 79)), 3, [], .none, .none, .none, (.str (.ofString "law_lastslips_k80_fewest_starts") 1084), none, (.ref 818), .none, 0⟩), ([]).toArray⟩),
  (824, ⟨(.type "function"), none, (.func ⟨(.ofString "_law_rows_of_starts"), (.ofString "_law_rows_of_starts"), (defArgs (top 80)), (FuncBody.stmts <| defBody (top 80)), (defScope (top 80)), 3, [], .none, .none, .none, (.str (.ofString "law_lastslips_k80_fewest_starts") 1084), none, (.ref 823), .none, 0⟩), ([]).toArray⟩),
  (831, ⟨(.type "function"), none, (.func ⟨(.ofString "_law_odd"), (.ofString "_law_odd"), (defArgs (top 81)), (FuncBody.stmts <| defBody (top 81)), (defScope (top 81)), 3, [], .none, .none, .none, (.str (.ofString "law_lastslips_k80_fewest_starts") 1084), none, (.ref 830), .none, 0⟩), ([]).toArray⟩),
  (836, ⟨(.type "function"), none, (.func ⟨(.ofString "_law_odd_piles"), (.ofString "_law_odd_piles"), (defArgs (top 82)), (FuncBody.stmts <| defBody (top 82)), (defScope (top 82)), 3, [], .none, .none, .none, (.str (.ofString "law_lastslips_k80_fewest_starts") 1084), none, (.ref 835), .none, 0⟩), ([]).toArray⟩),
  (841, ⟨(.type "function"), none, (.func ⟨(.ofString "_law_trouble"), (.ofString "_law_trouble"), (defArgs (top 83)), (FuncBody.stmts <| defBody (top 83)), (defScope (top 83)), 3, [], .none, .none, .none, (.str (.ofString "law_lastslips_k80_fewest_starts") 1084), none, (.ref 840), .none, 0⟩), ([]).toArray⟩),
  (846, ⟨(.type "function"), none, (.func ⟨(.ofString "law"), (.ofString "law"), (defArgs (top 84)), (FuncBody.stmts <| defBody (top 84)), (defScope (top 84)), 3, [], .none, .none, .none, (.str (.ofString "law_lastslips_k80_fewest_starts") 1084), none, (.ref 845), .none, 0⟩), ([]).toArray⟩),
  (20, ⟨(.type "code"), none, (.fields ([(.str (.ofString "_wall") 187), (.str (.ofString "_wall") 188), (.str (.ofString "/claim/cut.py") 189), (.int (.ofNat 1) 0), (.int (.ofNat 1) 0), (.int (.ofNat 0) 0), (.int (.ofNat 0) 0), (.int (.ofNat 3) 0), (.ref 15), (.bool true), (.int (.ofNat 181) 0), (.ref 16), .none, (.ref 17), (.ref 18), (.ref 19), (.int (.ofNat 191) 0), (.int (.ofNat 1) 0), (.str (.ofString "/claim/cut.py") 192)]).toArray), ([]).toArray⟩),
  (30, ⟨(.type "dict"), none, (.dict ([⟨hs W (.ofString "__module__"), (.str (.ofString "__module__") 203), (.str (.ofString "lastslips.notation") 194)⟩, ⟨hs W (.ofString "__firstlineno__"), (.str (.ofString "__firstlineno__") 207), (.int (.ofNat 5) 206)⟩, ⟨hs W (.ofString "__static_attributes__"), (.str (.ofString "__static_attributes__") 208), (.ref 29)⟩, ⟨hs W (.ofString "__weakref__"), (.str (.ofString "__weakref__") 210), (.ref 32)⟩, ⟨hs W (.ofString "__doc__"), (.str (.ofString "__doc__") 211), .none⟩]).toArray 3), ([]).toArray⟩),
  (50, ⟨(.type "dict"), none, (.dict ([⟨hs W (.ofString "__module__"), (.str (.ofString "__module__") 221), (.str (.ofString "lastslips.notation") 194)⟩, ⟨hs W (.ofString "__firstlineno__"), (.str (.ofString "__firstlineno__") 225), (.int (.ofNat 7) 224)⟩, ⟨hs W (.ofString "__init__"), (.str (.ofString "__init__") 233), (.ref 48)⟩, ⟨hs W (.ofString "__static_attributes__"), (.str (.ofString "__static_attributes__") 235), (.ref 49)⟩, ⟨hs W (.ofString "__doc__"), (.str (.ofString "__doc__") 236), .none⟩]).toArray 2), ([]).toArray⟩)]
def ad6 : List Addr := [798, 805, 812, 819, 824, 831, 836, 841, 846, 20, 30, 50]
def kl7 (W : Params) : List (Addr × Obj) := [
  (69, ⟨(.type "dict"), none, (.dict ([⟨hs W (.ofString "__module__"), (.str (.ofString "__module__") 246), (.str (.ofString "lastslips.notation") 194)⟩, ⟨hs W (.ofString "__firstlineno__"), (.str (.ofString "__firstlineno__") 250), (.int (.ofNat 11) 249)⟩, ⟨hs W (.ofString "__init__"), (.str (.ofString "__init__") 258), (.ref 67)⟩, ⟨hs W (.ofString "__static_attributes__"), (.str (.ofString "__static_attributes__") 260), (.ref 68)⟩, ⟨hs W (.ofString "__doc__"), (.str (.ofString "__doc__") 261), .none⟩]).toArray 2), ([]).toArray⟩),
  (88, ⟨(.type "dict"), none, (.dict ([⟨hs W (.ofString "__module__"), (.str (.ofString "__module__") 271), (.str (.ofString "lastslips.notation") 194)⟩, ⟨hs W (.ofString "__firstlineno__"), (.str (.ofString "__firstlineno__") 275), (.int (.ofNat 15) 274)⟩, ⟨hs W (.ofString "__init__"), (.str (.ofString "__init__") 283), (.ref 86)⟩, ⟨hs W (.ofString "__static_attributes__"), (.str (.ofString "__static_attributes__") 285), (.ref 87)⟩, ⟨hs W (.ofString "__doc__"), (.str (.ofString "__doc__") 286), .none⟩]).toArray 2), ([]).toArray⟩),
  (107, ⟨(.type "dict"), none, (.dict ([⟨hs W (.ofString "__module__"), (.str (.ofString "__module__") 296), (.str (.ofString "lastslips.notation") 194)⟩, ⟨hs W (.ofString "__firstlineno__"), (.str (.ofString "__firstlineno__") 300), (.int (.ofNat 19) 299)⟩, ⟨hs W (.ofString "__init__"), (.str (.ofString "__init__") 309), (.ref 105)⟩, ⟨hs W (.ofString "__static_attributes__"), (.str (.ofString "__static_attributes__") 312), (.ref 106)⟩, ⟨hs W (.ofString "__doc__"), (.str (.ofString "__doc__") 313), .none⟩]).toArray 2), ([]).toArray⟩),
  (126, ⟨(.type "dict"), none, (.dict ([⟨hs W (.ofString "__module__"), (.str (.ofString "__module__") 323), (.str (.ofString "lastslips.notation") 194)⟩, ⟨hs W (.ofString "__firstlineno__"), (.str (.ofString "__firstlineno__") 327), (.int (.ofNat 24) 326)⟩, ⟨hs W (.ofString "__init__"), (.str (.ofString "__init__") 335), (.ref 124)⟩, ⟨hs W (.ofString "__static_attributes__"), (.str (.ofString "__static_attributes__") 337), (.ref 125)⟩, ⟨hs W (.ofString "__doc__"), (.str (.ofString "__doc__") 338), .none⟩]).toArray 2), ([]).toArray⟩),
  (145, ⟨(.type "dict"), none, (.dict ([⟨hs W (.ofString "__module__"), (.str (.ofString "__module__") 348), (.str (.ofString "lastslips.notation") 194)⟩, ⟨hs W (.ofString "__firstlineno__"), (.str (.ofString "__firstlineno__") 352), (.int (.ofNat 28) 351)⟩, ⟨hs W (.ofString "__init__"), (.str (.ofString "__init__") 361), (.ref 143)⟩, ⟨hs W (.ofString "__static_attributes__"), (.str (.ofString "__static_attributes__") 364), (.ref 144)⟩, ⟨hs W (.ofString "__doc__"), (.str (.ofString "__doc__") 365), .none⟩]).toArray 2), ([]).toArray⟩),
  (164, ⟨(.type "dict"), none, (.dict ([⟨hs W (.ofString "__module__"), (.str (.ofString "__module__") 375), (.str (.ofString "lastslips.notation") 194)⟩, ⟨hs W (.ofString "__firstlineno__"), (.str (.ofString "__firstlineno__") 379), (.int (.ofNat 33) 378)⟩, ⟨hs W (.ofString "__init__"), (.str (.ofString "__init__") 387), (.ref 162)⟩, ⟨hs W (.ofString "__static_attributes__"), (.str (.ofString "__static_attributes__") 389), (.ref 163)⟩, ⟨hs W (.ofString "__doc__"), (.str (.ofString "__doc__") 390), .none⟩]).toArray 2), ([]).toArray⟩),
  (183, ⟨(.type "dict"), none, (.dict ([⟨hs W (.ofString "__module__"), (.str (.ofString "__module__") 400), (.str (.ofString "lastslips.notation") 194)⟩, ⟨hs W (.ofString "__firstlineno__"), (.str (.ofString "__firstlineno__") 404), (.int (.ofNat 37) 403)⟩, ⟨hs W (.ofString "__init__"), (.str (.ofString "__init__") 412), (.ref 181)⟩, ⟨hs W (.ofString "__static_attributes__"), (.str (.ofString "__static_attributes__") 414), (.ref 182)⟩, ⟨hs W (.ofString "__doc__"), (.str (.ofString "__doc__") 415), .none⟩]).toArray 2), ([]).toArray⟩),
  (202, ⟨(.type "dict"), none, (.dict ([⟨hs W (.ofString "__module__"), (.str (.ofString "__module__") 425), (.str (.ofString "lastslips.notation") 194)⟩, ⟨hs W (.ofString "__firstlineno__"), (.str (.ofString "__firstlineno__") 429), (.int (.ofNat 41) 428)⟩, ⟨hs W (.ofString "__init__"), (.str (.ofString "__init__") 437), (.ref 200)⟩, ⟨hs W (.ofString "__static_attributes__"), (.str (.ofString "__static_attributes__") 439), (.ref 201)⟩, ⟨hs W (.ofString "__doc__"), (.str (.ofString "__doc__") 440), .none⟩]).toArray 2), ([]).toArray⟩),
  (221, ⟨(.type "dict"), none, (.dict ([⟨hs W (.ofString "__module__"), (.str (.ofString "__module__") 450), (.str (.ofString "lastslips.notation") 194)⟩, ⟨hs W (.ofString "__firstlineno__"), (.str (.ofString "__firstlineno__") 454), (.int (.ofNat 45) 453)⟩, ⟨hs W (.ofString "__init__"), (.str (.ofString "__init__") 462), (.ref 219)⟩, ⟨hs W (.ofString "__static_attributes__"), (.str (.ofString "__static_attributes__") 464), (.ref 220)⟩, ⟨hs W (.ofString "__doc__"), (.str (.ofString "__doc__") 465), .none⟩]).toArray 2), ([]).toArray⟩),
  (240, ⟨(.type "dict"), none, (.dict ([⟨hs W (.ofString "__module__"), (.str (.ofString "__module__") 475), (.str (.ofString "lastslips.notation") 194)⟩, ⟨hs W (.ofString "__firstlineno__"), (.str (.ofString "__firstlineno__") 479), (.int (.ofNat 49) 478)⟩, ⟨hs W (.ofString "__init__"), (.str (.ofString "__init__") 487), (.ref 238)⟩, ⟨hs W (.ofString "__static_attributes__"), (.str (.ofString "__static_attributes__") 489), (.ref 239)⟩, ⟨hs W (.ofString "__doc__"), (.str (.ofString "__doc__") 490), .none⟩]).toArray 2), ([]).toArray⟩),
  (252, ⟨(.type "dict"), none, (.dict ([⟨hs W (.ofString "__module__"), (.str (.ofString "__module__") 500), (.str (.ofString "lastslips.notation") 194)⟩, ⟨hs W (.ofString "__firstlineno__"), (.str (.ofString "__firstlineno__") 504), (.int (.ofNat 53) 503)⟩, ⟨hs W (.ofString "__static_attributes__"), (.str (.ofString "__static_attributes__") 505), (.ref 251)⟩, ⟨hs W (.ofString "__doc__"), (.str (.ofString "__doc__") 506), .none⟩]).toArray 2), ([]).toArray⟩),
  (271, ⟨(.type "dict"), none, (.dict ([⟨hs W (.ofString "__module__"), (.str (.ofString "__module__") 516), (.str (.ofString "lastslips.notation") 194)⟩, ⟨hs W (.ofString "__firstlineno__"), (.str (.ofString "__firstlineno__") 520), (.int (.ofNat 55) 519)⟩, ⟨hs W (.ofString "__init__"), (.str (.ofString "__init__") 528), (.ref 269)⟩, ⟨hs W (.ofString "__static_attributes__"), (.str (.ofString "__static_attributes__") 530), (.ref 270)⟩, ⟨hs W (.ofString "__doc__"), (.str (.ofString "__doc__") 531), .none⟩]).toArray 2), ([]).toArray⟩)]
def ad7 : List Addr := [69, 88, 107, 126, 145, 164, 183, 202, 221, 240, 252, 271]
def kl8 (W : Params) : List (Addr × Obj) := [
  (290, ⟨(.type "dict"), none, (.dict ([⟨hs W (.ofString "__module__"), (.str (.ofString "__module__") 541), (.str (.ofString "lastslips.notation") 194)⟩, ⟨hs W (.ofString "__firstlineno__"), (.str (.ofString "__firstlineno__") 545), (.int (.ofNat 59) 544)⟩, ⟨hs W (.ofString "__init__"), (.str (.ofString "__init__") 553), (.ref 288)⟩, ⟨hs W (.ofString "__static_attributes__"), (.str (.ofString "__static_attributes__") 555), (.ref 289)⟩, ⟨hs W (.ofString "__doc__"), (.str (.ofString "__doc__") 556), .none⟩]).toArray 2), ([]).toArray⟩),
  (309, ⟨(.type "dict"), none, (.dict ([⟨hs W (.ofString "__module__"), (.str (.ofString "__module__") 566), (.str (.ofString "lastslips.notation") 194)⟩, ⟨hs W (.ofString "__firstlineno__"), (.str (.ofString "__firstlineno__") 570), (.int (.ofNat 63) 569)⟩, ⟨hs W (.ofString "__init__"), (.str (.ofString "__init__") 578), (.ref 307)⟩, ⟨hs W (.ofString "__static_attributes__"), (.str (.ofString "__static_attributes__") 580), (.ref 308)⟩, ⟨hs W (.ofString "__doc__"), (.str (.ofString "__doc__") 581), .none⟩]).toArray 2), ([]).toArray⟩),
  (321, ⟨(.type "dict"), none, (.dict ([⟨hs W (.ofString "__module__"), (.str (.ofString "__module__") 591), (.str (.ofString "lastslips.notation") 194)⟩, ⟨hs W (.ofString "__firstlineno__"), (.str (.ofString "__firstlineno__") 595), (.int (.ofNat 67) 594)⟩, ⟨hs W (.ofString "__static_attributes__"), (.str (.ofString "__static_attributes__") 596), (.ref 320)⟩, ⟨hs W (.ofString "__doc__"), (.str (.ofString "__doc__") 597), .none⟩]).toArray 2), ([]).toArray⟩),
  (340, ⟨(.type "dict"), none, (.dict ([⟨hs W (.ofString "__module__"), (.str (.ofString "__module__") 607), (.str (.ofString "lastslips.notation") 194)⟩, ⟨hs W (.ofString "__firstlineno__"), (.str (.ofString "__firstlineno__") 611), (.int (.ofNat 69) 610)⟩, ⟨hs W (.ofString "__init__"), (.str (.ofString "__init__") 620), (.ref 338)⟩, ⟨hs W (.ofString "__static_attributes__"), (.str (.ofString "__static_attributes__") 623), (.ref 339)⟩, ⟨hs W (.ofString "__doc__"), (.str (.ofString "__doc__") 624), .none⟩]).toArray 2), ([]).toArray⟩),
  (359, ⟨(.type "dict"), none, (.dict ([⟨hs W (.ofString "__module__"), (.str (.ofString "__module__") 634), (.str (.ofString "lastslips.notation") 194)⟩, ⟨hs W (.ofString "__firstlineno__"), (.str (.ofString "__firstlineno__") 638), (.int (.ofNat 74) 637)⟩, ⟨hs W (.ofString "__init__"), (.str (.ofString "__init__") 646), (.ref 357)⟩, ⟨hs W (.ofString "__static_attributes__"), (.str (.ofString "__static_attributes__") 648), (.ref 358)⟩, ⟨hs W (.ofString "__doc__"), (.str (.ofString "__doc__") 649), .none⟩]).toArray 2), ([]).toArray⟩),
  (378, ⟨(.type "dict"), none, (.dict ([⟨hs W (.ofString "__module__"), (.str (.ofString "__module__") 659), (.str (.ofString "lastslips.notation") 194)⟩, ⟨hs W (.ofString "__firstlineno__"), (.str (.ofString "__firstlineno__") 663), (.int (.ofNat 78) 662)⟩, ⟨hs W (.ofString "__init__"), (.str (.ofString "__init__") 671), (.ref 376)⟩, ⟨hs W (.ofString "__static_attributes__"), (.str (.ofString "__static_attributes__") 673), (.ref 377)⟩, ⟨hs W (.ofString "__doc__"), (.str (.ofString "__doc__") 674), .none⟩]).toArray 2), ([]).toArray⟩),
  (397, ⟨(.type "dict"), none, (.dict ([⟨hs W (.ofString "__module__"), (.str (.ofString "__module__") 684), (.str (.ofString "lastslips.notation") 194)⟩, ⟨hs W (.ofString "__firstlineno__"), (.str (.ofString "__firstlineno__") 688), (.int (.ofNat 82) 687)⟩, ⟨hs W (.ofString "__init__"), (.str (.ofString "__init__") 696), (.ref 395)⟩, ⟨hs W (.ofString "__static_attributes__"), (.str (.ofString "__static_attributes__") 698), (.ref 396)⟩, ⟨hs W (.ofString "__doc__"), (.str (.ofString "__doc__") 699), .none⟩]).toArray 2), ([]).toArray⟩),
  (416, ⟨(.type "dict"), none, (.dict ([⟨hs W (.ofString "__module__"), (.str (.ofString "__module__") 709), (.str (.ofString "lastslips.notation") 194)⟩, ⟨hs W (.ofString "__firstlineno__"), (.str (.ofString "__firstlineno__") 713), (.int (.ofNat 86) 712)⟩, ⟨hs W (.ofString "__init__"), (.str (.ofString "__init__") 721), (.ref 414)⟩, ⟨hs W (.ofString "__static_attributes__"), (.str (.ofString "__static_attributes__") 723), (.ref 415)⟩, ⟨hs W (.ofString "__doc__"), (.str (.ofString "__doc__") 724), .none⟩]).toArray 2), ([]).toArray⟩),
  (435, ⟨(.type "dict"), none, (.dict ([⟨hs W (.ofString "__module__"), (.str (.ofString "__module__") 734), (.str (.ofString "lastslips.notation") 194)⟩, ⟨hs W (.ofString "__firstlineno__"), (.str (.ofString "__firstlineno__") 738), (.int (.ofNat 90) 737)⟩, ⟨hs W (.ofString "__init__"), (.str (.ofString "__init__") 746), (.ref 433)⟩, ⟨hs W (.ofString "__static_attributes__"), (.str (.ofString "__static_attributes__") 748), (.ref 434)⟩, ⟨hs W (.ofString "__doc__"), (.str (.ofString "__doc__") 749), .none⟩]).toArray 2), ([]).toArray⟩),
  (454, ⟨(.type "dict"), none, (.dict ([⟨hs W (.ofString "__module__"), (.str (.ofString "__module__") 759), (.str (.ofString "lastslips.notation") 194)⟩, ⟨hs W (.ofString "__firstlineno__"), (.str (.ofString "__firstlineno__") 763), (.int (.ofNat 94) 762)⟩, ⟨hs W (.ofString "__init__"), (.str (.ofString "__init__") 771), (.ref 452)⟩, ⟨hs W (.ofString "__static_attributes__"), (.str (.ofString "__static_attributes__") 773), (.ref 453)⟩, ⟨hs W (.ofString "__doc__"), (.str (.ofString "__doc__") 774), .none⟩]).toArray 2), ([]).toArray⟩),
  (473, ⟨(.type "dict"), none, (.dict ([⟨hs W (.ofString "__module__"), (.str (.ofString "__module__") 784), (.str (.ofString "lastslips.notation") 194)⟩, ⟨hs W (.ofString "__firstlineno__"), (.str (.ofString "__firstlineno__") 788), (.int (.ofNat 98) 787)⟩, ⟨hs W (.ofString "__init__"), (.str (.ofString "__init__") 796), (.ref 471)⟩, ⟨hs W (.ofString "__static_attributes__"), (.str (.ofString "__static_attributes__") 798), (.ref 472)⟩, ⟨hs W (.ofString "__doc__"), (.str (.ofString "__doc__") 799), .none⟩]).toArray 2), ([]).toArray⟩),
  (482, ⟨(.type "code"), none, (.fields ([(.str (.ofString "check_arrows") 806), (.str (.ofString "check_arrows") 807), (.str (.ofString "/claim/cut.py") 808), (.int (.ofNat 104) 0), (.int (.ofNat 1) 0), (.int (.ofNat 0) 0), (.int (.ofNat 0) 0), (.int (.ofNat 3) 0), (.ref 477), (.bool true), (.int (.ofNat 181) 0), (.ref 478), .none, (.ref 479), (.ref 480), (.ref 481), (.int (.ofNat 811) 0), (.int (.ofNat 104) 0), (.str (.ofString "/claim/cut.py") 812)]).toArray), ([]).toArray⟩)]
def ad8 : List Addr := [290, 309, 321, 340, 359, 378, 397, 416, 435, 454, 473, 482]
def kl9 (W : Params) : List (Addr × Obj) := [
  (489, ⟨(.type "code"), none, (.fields ([(.str (.ofString "check_index") 814), (.str (.ofString "check_index") 815), (.str (.ofString "/claim/cut.py") 816), (.int (.ofNat 110) 0), (.int (.ofNat 2) 0), (.int (.ofNat 0) 0), (.int (.ofNat 0) 0), (.int (.ofNat 3) 0), (.ref 484), (.bool true), (.int (.ofNat 181) 0), (.ref 485), .none, (.ref 486), (.ref 487), (.ref 488), (.int (.ofNat 819) 0), (.int (.ofNat 110) 0), (.str (.ofString "/claim/cut.py") 820)]).toArray), ([]).toArray⟩),
  (496, ⟨(.type "code"), none, (.fields ([(.str (.ofString "from_least") 822), (.str (.ofString "from_least") 823), (.str (.ofString "/claim/cut.py") 824), (.int (.ofNat 113) 0), (.int (.ofNat 1) 0), (.int (.ofNat 0) 0), (.int (.ofNat 0) 0), (.int (.ofNat 3) 0), (.ref 491), (.bool true), (.int (.ofNat 181) 0), (.ref 492), .none, (.ref 493), (.ref 494), (.ref 495), (.int (.ofNat 827) 0), (.int (.ofNat 113) 0), (.str (.ofString "/claim/cut.py") 828)]).toArray), ([]).toArray⟩),
  (503, ⟨(.type "code"), none, (.fields ([(.str (.ofString "rings_of") 830), (.str (.ofString "rings_of") 831), (.str (.ofString "/claim/cut.py") 832), (.int (.ofNat 116) 0), (.int (.ofNat 1) 0), (.int (.ofNat 0) 0), (.int (.ofNat 0) 0), (.int (.ofNat 3) 0), (.ref 498), (.bool true), (.int (.ofNat 181) 0), (.ref 499), .none, (.ref 500), (.ref 501), (.ref 502), (.int (.ofNat 839) 0), (.int (.ofNat 116) 0), (.str (.ofString "/claim/cut.py") 840)]).toArray), ([]).toArray⟩),
  (554, ⟨(.type "dict"), none, (.dict ([⟨hs W (.ofString "__module__"), (.str (.ofString "__module__") 851), (.str (.ofString "lastslips.deal") 842)⟩, ⟨hs W (.ofString "__firstlineno__"), (.str (.ofString "__firstlineno__") 855), (.int (.ofNat 131) 854)⟩, ⟨hs W (.ofString "STATIONS"), (.str (.ofString "STATIONS") 857), (.int (.ofNat 40) 856)⟩, ⟨hs W (.ofString "PILE"), (.str (.ofString "PILE") 859), (.int (.ofNat 60) 858)⟩, ⟨hs W (.ofString "SLIPS"), (.str (.ofString "SLIPS") 861), (.int (.ofNat 300) 860)⟩, ⟨hs W (.ofString "COURIERS"), (.str (.ofString "COURIERS") 863), (.int (.ofNat 40) 862)⟩, ⟨hs W (.ofString "__init__"), (.str (.ofString "__init__") 869), (.ref 516)⟩, ⟨hs W (.ofString "__eq__"), (.str (.ofString "__eq__") 877), (.ref 523)⟩, ⟨hs W (.ofString "__len__"), (.str (.ofString "__len__") 883), (.ref 528)⟩, ⟨hs W (.ofString "station_count"), (.str (.ofString "station_count") 891), (.ref 536)⟩, ⟨hs W (.ofString "slip_count"), (.str (.ofString "slip_count") 899), (.ref 544)⟩, ⟨hs W (.ofString "courier_count"), (.str (.ofString "courier_count") 907), (.ref 552)⟩, ⟨hs W (.ofString "__static_attributes__"), (.str (.ofString "__static_attributes__") 910), (.ref 553)⟩, ⟨hs W (.ofString "__dict__"), (.str (.ofString "__dict__") 912), (.ref 556)⟩, ⟨hs W (.ofString "__weakref__"), (.str (.ofString "__weakref__") 914), (.ref 557)⟩, ⟨hs W (.ofString "__doc__"), (.str (.ofString "__doc__") 915), .none⟩, ⟨hs W (.ofString "__hash__"), (.str (.ofString "__hash__") 916), .none⟩]).toArray 5), ([]).toArray⟩),
  (565, ⟨(.type "code"), none, (.fields ([(.str (.ofString "check_station") 919), (.str (.ofString "check_station") 920), (.str (.ofString "/claim/cut.py") 921), (.int (.ofNat 158) 0), (.int (.ofNat 2) 0), (.int (.ofNat 0) 0), (.int (.ofNat 0) 0), (.int (.ofNat 3) 0), (.ref 560), (.bool true), (.int (.ofNat 181) 0), (.ref 561), .none, (.ref 562), (.ref 563), (.ref 564), (.int (.ofNat 924) 0), (.int (.ofNat 158) 0), (.str (.ofString "/claim/cut.py") 925)]).toArray), ([]).toArray⟩),
  (572, ⟨(.type "code"), none, (.fields ([(.str (.ofString "check_count") 927), (.str (.ofString "check_count") 928), (.str (.ofString "/claim/cut.py") 929), (.int (.ofNat 161) 0), (.int (.ofNat 1) 0), (.int (.ofNat 0) 0), (.int (.ofNat 0) 0), (.int (.ofNat 3) 0), (.ref 567), (.bool true), (.int (.ofNat 181) 0), (.ref 568), .none, (.ref 569), (.ref 570), (.ref 571), (.int (.ofNat 931) 0), (.int (.ofNat 161) 0), (.str (.ofString "/claim/cut.py") 932)]).toArray), ([]).toArray⟩),
  (579, ⟨(.type "code"), none, (.fields ([(.str (.ofString "check_pile") 934), (.str (.ofString "check_pile") 935), (.str (.ofString "/claim/cut.py") 936), (.int (.ofNat 166) 0), (.int (.ofNat 2) 0), (.int (.ofNat 0) 0), (.int (.ofNat 0) 0), (.int (.ofNat 3) 0), (.ref 574), (.bool true), (.int (.ofNat 181) 0), (.ref 575), .none, (.ref 576), (.ref 577), (.ref 578), (.int (.ofNat 940) 0), (.int (.ofNat 166) 0), (.str (.ofString "/claim/cut.py") 941)]).toArray), ([]).toArray⟩),
  (586, ⟨(.type "code"), none, (.fields ([(.str (.ofString "check_total") 943), (.str (.ofString "check_total") 944), (.str (.ofString "/claim/cut.py") 945), (.int (.ofNat 171) 0), (.int (.ofNat 1) 0), (.int (.ofNat 0) 0), (.int (.ofNat 0) 0), (.int (.ofNat 3) 0), (.ref 581), (.bool true), (.int (.ofNat 181) 0), (.ref 582), .none, (.ref 583), (.ref 584), (.ref 585), (.int (.ofNat 947) 0), (.int (.ofNat 171) 0), (.str (.ofString "/claim/cut.py") 948)]).toArray), ([]).toArray⟩),
  (591, ⟨(.type "code"), none, (.fields ([(.str (.ofString "check_piles") 950), (.str (.ofString "check_piles") 951), (.str (.ofString "/claim/cut.py") 952), (.int (.ofNat 174) 0), (.int (.ofNat 1) 0), (.int (.ofNat 0) 0), (.int (.ofNat 0) 0), (.int (.ofNat 3) 0), (.ref 588), (.bool true), (.int (.ofNat 181) 0), (.ref 589), .none, .none, .none, (.ref 590), (.int (.ofNat 953) 0), (.int (.ofNat 174) 0), (.str (.ofString "/claim/cut.py") 954)]).toArray), ([]).toArray⟩),
  (598, ⟨(.type "code"), none, (.fields ([(.str (.ofString "check_starts") 956), (.str (.ofString "check_starts") 957), (.str (.ofString "/claim/cut.py") 958), (.int (.ofNat 179) 0), (.int (.ofNat 2) 0), (.int (.ofNat 0) 0), (.int (.ofNat 0) 0), (.int (.ofNat 3) 0), (.ref 593), (.bool true), (.int (.ofNat 181) 0), (.ref 594), .none, (.ref 595), (.ref 596), (.ref 597), (.int (.ofNat 962) 0), (.int (.ofNat 179) 0), (.str (.ofString "/claim/cut.py") 963)]).toArray), ([]).toArray⟩),
  (605, ⟨(.type "code"), none, (.fields ([(.str (.ofString "tally_of") 965), (.str (.ofString "tally_of") 966), (.str (.ofString "/claim/cut.py") 967), (.int (.ofNat 184) 0), (.int (.ofNat 2) 0), (.int (.ofNat 0) 0), (.int (.ofNat 0) 0), (.int (.ofNat 3) 0), (.ref 600), (.bool true), (.int (.ofNat 181) 0), (.ref 601), .none, (.ref 602), (.ref 603), (.ref 604), (.int (.ofNat 972) 0), (.int (.ofNat 184) 0), (.str (.ofString "/claim/cut.py") 973)]).toArray), ([]).toArray⟩),
  (614, ⟨(.type "code"), none, (.fields ([(.str (.ofString "make_deal") 975), (.str (.ofString "make_deal") 976), (.str (.ofString "/claim/cut.py") 977), (.int (.ofNat 189) 0), (.int (.ofNat 2) 0), (.int (.ofNat 0) 0), (.int (.ofNat 0) 0), (.int (.ofNat 3) 0), (.ref 609), (.bool true), (.int (.ofNat 181) 0), (.ref 610), .none, (.ref 611), (.ref 612), (.ref 613), (.int (.ofNat 980) 0), (.int (.ofNat 189) 0), (.str (.ofString "/claim/cut.py") 981)]).toArray), ([]).toArray⟩)]
def ad9 : List Addr := [489, 496, 503, 554, 565, 572, 579, 586, 591, 598, 605, 614]
def kl10 (W : Params) : List (Addr × Obj) := [
  (608, ⟨(.type "tuple"), none, (.seq ([(.ref 607)]).toArray 0), ([]).toArray⟩),
  (619, ⟨(.type "code"), none, (.fields ([(.str (.ofString "sizes_of") 983), (.str (.ofString "sizes_of") 984), (.str (.ofString "/claim/cut.py") 985), (.int (.ofNat 193) 0), (.int (.ofNat 1) 0), (.int (.ofNat 0) 0), (.int (.ofNat 0) 0), (.int (.ofNat 3) 0), (.ref 616), (.bool true), (.int (.ofNat 181) 0), (.ref 617), .none, .none, .none, (.ref 618), (.int (.ofNat 986) 0), (.int (.ofNat 193) 0), (.str (.ofString "/claim/cut.py") 987)]).toArray), ([]).toArray⟩),
  (624, ⟨(.type "code"), none, (.fields ([(.str (.ofString "pack_of") 989), (.str (.ofString "pack_of") 990), (.str (.ofString "/claim/cut.py") 991), (.int (.ofNat 195) 0), (.int (.ofNat 1) 0), (.int (.ofNat 0) 0), (.int (.ofNat 0) 0), (.int (.ofNat 3) 0), (.ref 621), (.bool true), (.int (.ofNat 181) 0), (.ref 622), .none, .none, .none, (.ref 623), (.int (.ofNat 992) 0), (.int (.ofNat 195) 0), (.str (.ofString "/claim/cut.py") 993)]).toArray), ([]).toArray⟩),
  (629, ⟨(.type "code"), none, (.fields ([(.str (.ofString "bottoms") 997), (.str (.ofString "bottoms") 998), (.str (.ofString "/claim/cut.py") 999), (.int (.ofNat 198) 0), (.int (.ofNat 1) 0), (.int (.ofNat 0) 0), (.int (.ofNat 0) 0), (.int (.ofNat 3) 0), (.ref 626), (.bool true), (.int (.ofNat 181) 0), (.ref 627), .none, .none, .none, (.ref 628), (.int (.ofNat 1000) 0), (.int (.ofNat 198) 0), (.str (.ofString "/claim/cut.py") 1001)]).toArray), ([]).toArray⟩),
  (636, ⟨(.type "code"), none, (.fields ([(.str (.ofString "last_slips") 1003), (.str (.ofString "last_slips") 1004), (.str (.ofString "/claim/cut.py") 1005), (.int (.ofNat 200) 0), (.int (.ofNat 1) 0), (.int (.ofNat 0) 0), (.int (.ofNat 0) 0), (.int (.ofNat 3) 0), (.ref 631), (.bool true), (.int (.ofNat 181) 0), (.ref 632), .none, (.ref 633), (.ref 634), (.ref 635), (.int (.ofNat 1007) 0), (.int (.ofNat 200) 0), (.str (.ofString "/claim/cut.py") 1008)]).toArray), ([]).toArray⟩),
  (643, ⟨(.type "code"), none, (.fields ([(.str (.ofString "take_step") 1012), (.str (.ofString "take_step") 1013), (.str (.ofString "/claim/cut.py") 1014), (.int (.ofNat 203) 0), (.int (.ofNat 4) 0), (.int (.ofNat 0) 0), (.int (.ofNat 0) 0), (.int (.ofNat 3) 0), (.ref 638), (.bool true), (.int (.ofNat 181) 0), (.ref 639), .none, (.ref 640), (.ref 641), (.ref 642), (.int (.ofNat 1021) 0), (.int (.ofNat 203) 0), (.str (.ofString "/claim/cut.py") 1022)]).toArray), ([]).toArray⟩),
  (651, ⟨(.type "code"), none, (.fields ([(.str (.ofString "run") 1025), (.str (.ofString "run") 1026), (.str (.ofString "/claim/cut.py") 1027), (.int (.ofNat 209) 0), (.int (.ofNat 1) 0), (.int (.ofNat 0) 0), (.int (.ofNat 1) 0), (.int (.ofNat 3) 0), (.ref 646), (.bool true), (.int (.ofNat 181) 0), (.ref 647), .none, (.ref 648), (.ref 649), (.ref 650), (.int (.ofNat 1035) 0), (.int (.ofNat 209) 0), (.str (.ofString "/claim/cut.py") 1036)]).toArray), ([]).toArray⟩),
  (645, ⟨(.type "dict"), none, (.dict ([⟨hs W (.ofString "steps"), (.str (.ofString "steps") 1024), .none⟩]).toArray 1), ([]).toArray⟩),
  (656, ⟨(.type "code"), none, (.fields ([(.str (.ofString "comes_out") 1038), (.str (.ofString "comes_out") 1039), (.str (.ofString "/claim/cut.py") 1040), (.int (.ofNat 222) 0), (.int (.ofNat 1) 0), (.int (.ofNat 0) 0), (.int (.ofNat 0) 0), (.int (.ofNat 3) 0), (.ref 653), (.bool true), (.int (.ofNat 181) 0), (.ref 654), .none, .none, .none, (.ref 655), (.int (.ofNat 1041) 0), (.int (.ofNat 222) 0), (.str (.ofString "/claim/cut.py") 1042)]).toArray), ([]).toArray⟩),
  (661, ⟨(.type "code"), none, (.fields ([(.str (.ofString "lacks") 1046), (.str (.ofString "lacks") 1047), (.str (.ofString "/claim/cut.py") 1048), (.int (.ofNat 225) 0), (.int (.ofNat 1) 0), (.int (.ofNat 0) 0), (.int (.ofNat 0) 0), (.int (.ofNat 3) 0), (.ref 658), (.bool true), (.int (.ofNat 181) 0), (.ref 659), .none, .none, .none, (.ref 660), (.int (.ofNat 1049) 0), (.int (.ofNat 225) 0), (.str (.ofString "/claim/cut.py") 1050)]).toArray), ([]).toArray⟩),
  (668, ⟨(.type "code"), none, (.fields ([(.str (.ofString "lacking_rings") 1052), (.str (.ofString "lacking_rings") 1053), (.str (.ofString "/claim/cut.py") 1054), (.int (.ofNat 227) 0), (.int (.ofNat 1) 0), (.int (.ofNat 0) 0), (.int (.ofNat 0) 0), (.int (.ofNat 3) 0), (.ref 663), (.bool true), (.int (.ofNat 181) 0), (.ref 664), .none, (.ref 665), (.ref 666), (.ref 667), (.int (.ofNat 1059) 0), (.int (.ofNat 227) 0), (.str (.ofString "/claim/cut.py") 1060)]).toArray), ([]).toArray⟩),
  (675, ⟨(.type "code"), none, (.fields ([(.str (.ofString "fewest_starts") 1062), (.str (.ofString "fewest_starts") 1063), (.str (.ofString "/claim/cut.py") 1064), (.int (.ofNat 233) 0), (.int (.ofNat 1) 0), (.int (.ofNat 0) 0), (.int (.ofNat 0) 0), (.int (.ofNat 3) 0), (.ref 670), (.bool true), (.int (.ofNat 181) 0), (.ref 671), .none, (.ref 672), (.ref 673), (.ref 674), (.int (.ofNat 1067) 0), (.int (.ofNat 233) 0), (.str (.ofString "/claim/cut.py") 1068)]).toArray), ([]).toArray⟩)]
def ad10 : List Addr := [608, 619, 624, 629, 636, 643, 651, 645, 656, 661, 668, 675]
def kl11 (W : Params) : List (Addr × Obj) := [
  (680, ⟨(.type "code"), none, (.fields ([(.str (.ofString "best_starts") 1070), (.str (.ofString "best_starts") 1071), (.str (.ofString "/claim/cut.py") 1072), (.int (.ofNat 236) 0), (.int (.ofNat 1) 0), (.int (.ofNat 0) 0), (.int (.ofNat 0) 0), (.int (.ofNat 3) 0), (.ref 677), (.bool true), (.int (.ofNat 181) 0), (.ref 678), .none, .none, .none, (.ref 679), (.int (.ofNat 1073) 0), (.int (.ofNat 236) 0), (.str (.ofString "/claim/cut.py") 1074)]).toArray), ([]).toArray⟩),
  (687, ⟨(.type "code"), none, (.fields ([(.str (.ofString "judge_starts") 1076), (.str (.ofString "judge_starts") 1077), (.str (.ofString "/claim/cut.py") 1078), (.int (.ofNat 242) 0), (.int (.ofNat 2) 0), (.int (.ofNat 0) 0), (.int (.ofNat 0) 0), (.int (.ofNat 3) 0), (.ref 682), (.bool true), (.int (.ofNat 181) 0), (.ref 683), .none, (.ref 684), (.ref 685), (.ref 686), (.int (.ofNat 1081) 0), (.int (.ofNat 242) 0), (.str (.ofString "/claim/cut.py") 1082)]).toArray), ([]).toArray⟩),
  (694, ⟨(.type "code"), none, (.fields ([(.str (.ofString "_law_mix") 1086), (.str (.ofString "_law_mix") 1087), (.str (.ofString "/claim/cut.py") 1088), (.int (.ofNat 245) 0), (.int (.ofNat 3) 0), (.int (.ofNat 0) 0), (.int (.ofNat 0) 0), (.int (.ofNat 3) 0), (.ref 689), (.bool true), (.int (.ofNat 181) 0), (.ref 690), .none, (.ref 691), (.ref 692), (.ref 693), (.int (.ofNat 1096) 0), (.int (.ofNat 245) 0), (.str (.ofString "/claim/cut.py") 1097)]).toArray), ([]).toArray⟩),
  (701, ⟨(.type "code"), none, (.fields ([(.str (.ofString "_law_store") 1099), (.str (.ofString "_law_store") 1100), (.str (.ofString "/claim/cut.py") 1101), (.int (.ofNat 252) 0), (.int (.ofNat 1) 0), (.int (.ofNat 0) 0), (.int (.ofNat 0) 0), (.int (.ofNat 3) 0), (.ref 696), (.bool true), (.int (.ofNat 181) 0), (.ref 697), .none, (.ref 698), (.ref 699), (.ref 700), (.int (.ofNat 1111) 0), (.int (.ofNat 252) 0), (.str (.ofString "/claim/cut.py") 1112)]).toArray), ([]).toArray⟩),
  (708, ⟨(.type "code"), none, (.fields ([(.str (.ofString "_law_take") 1114), (.str (.ofString "_law_take") 1115), (.str (.ofString "/claim/cut.py") 1116), (.int (.ofNat 269) 0), (.int (.ofNat 2) 0), (.int (.ofNat 0) 0), (.int (.ofNat 0) 0), (.int (.ofNat 3) 0), (.ref 703), (.bool true), (.int (.ofNat 181) 0), (.ref 704), .none, (.ref 705), (.ref 706), (.ref 707), (.int (.ofNat 1124) 0), (.int (.ofNat 269) 0), (.str (.ofString "/claim/cut.py") 1125)]).toArray), ([]).toArray⟩),
  (715, ⟨(.type "code"), none, (.fields ([(.str (.ofString "_law_shuffled") 1127), (.str (.ofString "_law_shuffled") 1128), (.str (.ofString "/claim/cut.py") 1129), (.int (.ofNat 295) 0), (.int (.ofNat 2) 0), (.int (.ofNat 0) 0), (.int (.ofNat 0) 0), (.int (.ofNat 3) 0), (.ref 710), (.bool true), (.int (.ofNat 181) 0), (.ref 711), .none, (.ref 712), (.ref 713), (.ref 714), (.int (.ofNat 1136) 0), (.int (.ofNat 295) 0), (.str (.ofString "/claim/cut.py") 1137)]).toArray), ([]).toArray⟩),
  (720, ⟨(.type "code"), none, (.fields ([(.str (.ofString "_law_end_counts") 1139), (.str (.ofString "_law_end_counts") 1140), (.str (.ofString "/claim/cut.py") 1141), (.int (.ofNat 303) 0), (.int (.ofNat 3) 0), (.int (.ofNat 0) 0), (.int (.ofNat 0) 0), (.int (.ofNat 3) 0), (.ref 717), (.bool true), (.int (.ofNat 181) 0), (.ref 718), .none, .none, .none, (.ref 719), (.int (.ofNat 1142) 0), (.int (.ofNat 303) 0), (.str (.ofString "/claim/cut.py") 1143)]).toArray), ([]).toArray⟩),
  (725, ⟨(.type "code"), none, (.fields ([(.str (.ofString "_law_other_row") 1145), (.str (.ofString "_law_other_row") 1146), (.str (.ofString "/claim/cut.py") 1147), (.int (.ofNat 308) 0), (.int (.ofNat 3) 0), (.int (.ofNat 0) 0), (.int (.ofNat 0) 0), (.int (.ofNat 3) 0), (.ref 722), (.bool true), (.int (.ofNat 181) 0), (.ref 723), .none, .none, .none, (.ref 724), (.int (.ofNat 1148) 0), (.int (.ofNat 308) 0), (.str (.ofString "/claim/cut.py") 1149)]).toArray), ([]).toArray⟩),
  (732, ⟨(.type "code"), none, (.fields ([(.str (.ofString "_law_same") 1151), (.str (.ofString "_law_same") 1152), (.str (.ofString "/claim/cut.py") 1153), (.int (.ofNat 311) 0), (.int (.ofNat 2) 0), (.int (.ofNat 0) 0), (.int (.ofNat 0) 0), (.int (.ofNat 3) 0), (.ref 727), (.bool true), (.int (.ofNat 181) 0), (.ref 728), .none, (.ref 729), (.ref 730), (.ref 731), (.int (.ofNat 1161) 0), (.int (.ofNat 311) 0), (.str (.ofString "/claim/cut.py") 1162)]).toArray), ([]).toArray⟩),
  (739, ⟨(.type "code"), none, (.fields ([(.str (.ofString "_law_same_leaf") 1164), (.str (.ofString "_law_same_leaf") 1165), (.str (.ofString "/claim/cut.py") 1166), (.int (.ofNat 329) 0), (.int (.ofNat 2) 0), (.int (.ofNat 0) 0), (.int (.ofNat 0) 0), (.int (.ofNat 3) 0), (.ref 734), (.bool true), (.int (.ofNat 181) 0), (.ref 735), .none, (.ref 736), (.ref 737), (.ref 738), (.int (.ofNat 1169) 0), (.int (.ofNat 329) 0), (.str (.ofString "/claim/cut.py") 1170)]).toArray), ([]).toArray⟩),
  (744, ⟨(.type "code"), none, (.fields ([(.str (.ofString "_law_pack_of") 1172), (.str (.ofString "_law_pack_of") 1173), (.str (.ofString "/claim/cut.py") 1174), (.int (.ofNat 339) 0), (.int (.ofNat 1) 0), (.int (.ofNat 0) 0), (.int (.ofNat 0) 0), (.int (.ofNat 3) 0), (.ref 741), (.bool true), (.int (.ofNat 181) 0), (.ref 742), .none, .none, .none, (.ref 743), (.int (.ofNat 1175) 0), (.int (.ofNat 339) 0), (.str (.ofString "/claim/cut.py") 1176)]).toArray), ([]).toArray⟩),
  (749, ⟨(.type "code"), none, (.fields ([(.str (.ofString "_law_run") 1178), (.str (.ofString "_law_run") 1179), (.str (.ofString "/claim/cut.py") 1180), (.int (.ofNat 345) 0), (.int (.ofNat 2) 0), (.int (.ofNat 0) 0), (.int (.ofNat 0) 0), (.int (.ofNat 3) 0), (.ref 746), (.bool true), (.int (.ofNat 181) 0), (.ref 747), .none, .none, .none, (.ref 748), (.int (.ofNat 1181) 0), (.int (.ofNat 345) 0), (.str (.ofString "/claim/cut.py") 1182)]).toArray), ([]).toArray⟩)]
def ad11 : List Addr := [680, 687, 694, 701, 708, 715, 720, 725, 732, 739, 744, 749]
def kl12 (W : Params) : List (Addr × Obj) := [
  (754, ⟨(.type "code"), none, (.fields ([(.str (.ofString "_law_aim_row") 1184), (.str (.ofString "_law_aim_row") 1185), (.str (.ofString "/claim/cut.py") 1186), (.int (.ofNat 361) 0), (.int (.ofNat 2) 0), (.int (.ofNat 0) 0), (.int (.ofNat 0) 0), (.int (.ofNat 3) 0), (.ref 751), (.bool true), (.int (.ofNat 181) 0), (.ref 752), .none, .none, .none, (.ref 753), (.int (.ofNat 1187) 0), (.int (.ofNat 361) 0), (.str (.ofString "/claim/cut.py") 1188)]).toArray), ([]).toArray⟩),
  (761, ⟨(.type "code"), none, (.fields ([(.str (.ofString "_law_ring_rows") 1190), (.str (.ofString "_law_ring_rows") 1191), (.str (.ofString "/claim/cut.py") 1192), (.int (.ofNat 371) 0), (.int (.ofNat 1) 0), (.int (.ofNat 0) 0), (.int (.ofNat 0) 0), (.int (.ofNat 3) 0), (.ref 756), (.bool true), (.int (.ofNat 181) 0), (.ref 757), .none, (.ref 758), (.ref 759), (.ref 760), (.int (.ofNat 1199) 0), (.int (.ofNat 371) 0), (.str (.ofString "/claim/cut.py") 1200)]).toArray), ([]).toArray⟩),
  (766, ⟨(.type "code"), none, (.fields ([(.str (.ofString "_law_seats") 1202), (.str (.ofString "_law_seats") 1203), (.str (.ofString "/claim/cut.py") 1204), (.int (.ofNat 384) 0), (.int (.ofNat 4) 0), (.int (.ofNat 0) 0), (.int (.ofNat 0) 0), (.int (.ofNat 3) 0), (.ref 763), (.bool true), (.int (.ofNat 181) 0), (.ref 764), .none, .none, .none, (.ref 765), (.int (.ofNat 1205) 0), (.int (.ofNat 384) 0), (.str (.ofString "/claim/cut.py") 1206)]).toArray), ([]).toArray⟩),
  (771, ⟨(.type "code"), none, (.fields ([(.str (.ofString "_law_class_of") 1208), (.str (.ofString "_law_class_of") 1209), (.str (.ofString "/claim/cut.py") 1210), (.int (.ofNat 402) 0), (.int (.ofNat 1) 0), (.int (.ofNat 0) 0), (.int (.ofNat 0) 0), (.int (.ofNat 3) 0), (.ref 768), (.bool true), (.int (.ofNat 181) 0), (.ref 769), .none, .none, .none, (.ref 770), (.int (.ofNat 1211) 0), (.int (.ofNat 402) 0), (.str (.ofString "/claim/cut.py") 1212)]).toArray), ([]).toArray⟩),
  (778, ⟨(.type "code"), none, (.fields ([(.str (.ofString "_law_refusal_of") 1214), (.str (.ofString "_law_refusal_of") 1215), (.str (.ofString "/claim/cut.py") 1216), (.int (.ofNat 416) 0), (.int (.ofNat 1) 0), (.int (.ofNat 0) 0), (.int (.ofNat 0) 0), (.int (.ofNat 3) 0), (.ref 773), (.bool true), (.int (.ofNat 181) 0), (.ref 774), .none, (.ref 775), (.ref 776), (.ref 777), (.int (.ofNat 1219) 0), (.int (.ofNat 416) 0), (.str (.ofString "/claim/cut.py") 1220)]).toArray), ([]).toArray⟩),
  (785, ⟨(.type "code"), none, (.fields ([(.str (.ofString "_law_ask") 1222), (.str (.ofString "_law_ask") 1223), (.str (.ofString "/claim/cut.py") 1224), (.int (.ofNat 425) 0), (.int (.ofNat 3) 0), (.int (.ofNat 0) 0), (.int (.ofNat 0) 0), (.int (.ofNat 3) 0), (.ref 780), (.bool true), (.int (.ofNat 181) 0), (.ref 781), .none, (.ref 782), (.ref 783), (.ref 784), (.int (.ofNat 1229) 0), (.int (.ofNat 425) 0), (.str (.ofString "/claim/cut.py") 1230)]).toArray), ([]).toArray⟩),
  (792, ⟨(.type "code"), none, (.fields ([(.str (.ofString "_law_told") 1232), (.str (.ofString "_law_told") 1233), (.str (.ofString "/claim/cut.py") 1234), (.int (.ofNat 434) 0), (.int (.ofNat 3) 0), (.int (.ofNat 0) 0), (.int (.ofNat 0) 0), (.int (.ofNat 3) 0), (.ref 787), (.bool true), (.int (.ofNat 181) 0), (.ref 788), .none, (.ref 789), (.ref 790), (.ref 791), (.int (.ofNat 1238) 0), (.int (.ofNat 434) 0), (.str (.ofString "/claim/cut.py") 1239)]).toArray), ([]).toArray⟩),
  (797, ⟨(.type "code"), none, (.fields ([(.str (.ofString "_law_takes_all") 1241), (.str (.ofString "_law_takes_all") 1242), (.str (.ofString "/claim/cut.py") 1243), (.int (.ofNat 436) 0), (.int (.ofNat 2) 0), (.int (.ofNat 0) 0), (.int (.ofNat 0) 0), (.int (.ofNat 3) 0), (.ref 794), (.bool true), (.int (.ofNat 181) 0), (.ref 795), .none, .none, .none, (.ref 796), (.int (.ofNat 1244) 0), (.int (.ofNat 436) 0), (.str (.ofString "/claim/cut.py") 1245)]).toArray), ([]).toArray⟩),
  (804, ⟨(.type "code"), none, (.fields ([(.str (.ofString "_law_least") 1247), (.str (.ofString "_law_least") 1248), (.str (.ofString "/claim/cut.py") 1249), (.int (.ofNat 438) 0), (.int (.ofNat 1) 0), (.int (.ofNat 0) 0), (.int (.ofNat 0) 0), (.int (.ofNat 3) 0), (.ref 799), (.bool true), (.int (.ofNat 181) 0), (.ref 800), .none, (.ref 801), (.ref 802), (.ref 803), (.int (.ofNat 1256) 0), (.int (.ofNat 438) 0), (.str (.ofString "/claim/cut.py") 1257)]).toArray), ([]).toArray⟩),
  (811, ⟨(.type "code"), none, (.fields ([(.str (.ofString "_law_rule") 1259), (.str (.ofString "_law_rule") 1260), (.str (.ofString "/claim/cut.py") 1261), (.int (.ofNat 450) 0), (.int (.ofNat 1) 0), (.int (.ofNat 0) 0), (.int (.ofNat 0) 0), (.int (.ofNat 3) 0), (.ref 806), (.bool true), (.int (.ofNat 181) 0), (.ref 807), .none, (.ref 808), (.ref 809), (.ref 810), (.int (.ofNat 1267) 0), (.int (.ofNat 450) 0), (.str (.ofString "/claim/cut.py") 1268)]).toArray), ([]).toArray⟩),
  (818, ⟨(.type "code"), none, (.fields ([(.str (.ofString "_law_judged") 1270), (.str (.ofString "_law_judged") 1271), (.str (.ofString "/claim/cut.py") 1272), (.int (.ofNat 458) 0), (.int (.ofNat 3) 0), (.int (.ofNat 0) 0), (.int (.ofNat 0) 0), (.int (.ofNat 3) 0), (.ref 813), (.bool true), (.int (.ofNat 181) 0), (.ref 814), .none, (.ref 815), (.ref 816), (.ref 817), (.int (.ofNat 1277) 0), (.int (.ofNat 458) 0), (.str (.ofString "/claim/cut.py") 1278)]).toArray), ([]).toArray⟩),
  (823, ⟨(.type "code"), none, (.fields ([(.str (.ofString "_law_rows_of_starts") 1280), (.str (.ofString "_law_rows_of_starts") 1281), (.str (.ofString "/claim/cut.py") 1282), (.int (.ofNat 463) 0), (.int (.ofNat 3) 0), (.int (.ofNat 0) 0), (.int (.ofNat 0) 0), (.int (.ofNat 3) 0), (.ref 820), (.bool true), (.int (.ofNat 181) 0), (.ref 821), .none, .none, .none, (.ref 822), (.int (.ofNat 1283) 0), (.int (.ofNat 463) 0), (.str (.ofString "/claim/cut.py") 1284)]).toArray), ([]).toArray⟩)]
def ad12 : List Addr := [754, 761, 766, 771, 778, 785, 792, 797, 804, 811, 818, 823]
def kl13 (W : Params) : List (Addr × Obj) := [
  (830, ⟨(.type "code"), none, (.fields ([(.str (.ofString "_law_odd") 1286), (.str (.ofString "_law_odd") 1287), (.str (.ofString "/claim/cut.py") 1288), (.int (.ofNat 474) 0), (.int (.ofNat 2) 0), (.int (.ofNat 0) 0), (.int (.ofNat 0) 0), (.int (.ofNat 3) 0), (.ref 825), (.bool true), (.int (.ofNat 181) 0), (.ref 826), .none, (.ref 827), (.ref 828), (.ref 829), (.int (.ofNat 1291) 0), (.int (.ofNat 474) 0), (.str (.ofString "/claim/cut.py") 1292)]).toArray), ([]).toArray⟩),
  (835, ⟨(.type "code"), none, (.fields ([(.str (.ofString "_law_odd_piles") 1294), (.str (.ofString "_law_odd_piles") 1295), (.str (.ofString "/claim/cut.py") 1296), (.int (.ofNat 476) 0), (.int (.ofNat 2) 0), (.int (.ofNat 0) 0), (.int (.ofNat 0) 0), (.int (.ofNat 3) 0), (.ref 832), (.bool true), (.int (.ofNat 181) 0), (.ref 833), .none, .none, .none, (.ref 834), (.int (.ofNat 1297) 0), (.int (.ofNat 476) 0), (.str (.ofString "/claim/cut.py") 1298)]).toArray), ([]).toArray⟩),
  (840, ⟨(.type "code"), none, (.fields ([(.str (.ofString "_law_trouble") 1300), (.str (.ofString "_law_trouble") 1301), (.str (.ofString "/claim/cut.py") 1302), (.int (.ofNat 495) 0), (.int (.ofNat 3) 0), (.int (.ofNat 0) 0), (.int (.ofNat 0) 0), (.int (.ofNat 3) 0), (.ref 837), (.bool true), (.int (.ofNat 181) 0), (.ref 838), .none, .none, .none, (.ref 839), (.int (.ofNat 1303) 0), (.int (.ofNat 495) 0), (.str (.ofString "/claim/cut.py") 1304)]).toArray), ([]).toArray⟩),
  (845, ⟨(.type "code"), none, (.fields ([(.str (.ofString "law") 1306), (.str (.ofString "law") 1307), (.str (.ofString "/claim/cut.py") 1308), (.int (.ofNat 516) 0), (.int (.ofNat 1) 0), (.int (.ofNat 0) 0), (.int (.ofNat 0) 0), (.int (.ofNat 3) 0), (.ref 842), (.bool true), (.int (.ofNat 181) 0), (.ref 843), .none, .none, .none, (.ref 844), (.int (.ofNat 1309) 0), (.int (.ofNat 516) 0), (.str (.ofString "/claim/cut.py") 1310)]).toArray), ([]).toArray⟩),
  (29, ⟨(.type "tuple"), none, (.seq ([]).toArray 0), ([]).toArray⟩),
  (32, ⟨(.type "getset_descriptor"), none, (.fields ([(.str (.ofString "__weakref__") 209), (.ref 31), (.builtin "ExceptionGroup.__weakref__"), .none]).toArray), ([]).toArray⟩),
  (48, ⟨(.type "function"), none, (.func ⟨(.ofString "__init__"), (.ofString "BadText.__init__"), (defArgs ((cBody (top 3)).getD 0 (.Pass ⟨0, 0, 0, 0⟩))), (FuncBody.stmts <| defBody ((cBody (top 3)).getD 0 (.Pass ⟨0, 0, 0, 0⟩))), (defScope ((cBody (top 3)).getD 0 (.Pass ⟨0, 0, 0, 0⟩))), 3, [], .none, .none, .none, (.str (.ofString "lastslips.notation") 194), none, (.ref 47), .none, 0⟩), ([]).toArray⟩),
  (49, ⟨(.type "tuple"), none, (.seq ([(.str (.ofString "at") 234)]).toArray 0), ([]).toArray⟩),
  (67, ⟨(.type "function"), none, (.func ⟨(.ofString "__init__"), (.ofString "Malformed.__init__"), (defArgs ((cBody (top 4)).getD 0 (.Pass ⟨0, 0, 0, 0⟩))), (FuncBody.stmts <| defBody ((cBody (top 4)).getD 0 (.Pass ⟨0, 0, 0, 0⟩))), (defScope ((cBody (top 4)).getD 0 (.Pass ⟨0, 0, 0, 0⟩))), 3, [], .none, .none, .none, (.str (.ofString "lastslips.notation") 194), none, (.ref 66), .none, 0⟩), ([]).toArray⟩),
  (68, ⟨(.type "tuple"), none, (.seq ([(.str (.ofString "what") 259)]).toArray 0), ([]).toArray⟩),
  (86, ⟨(.type "function"), none, (.func ⟨(.ofString "__init__"), (.ofString "BadStation.__init__"), (defArgs ((cBody (top 5)).getD 0 (.Pass ⟨0, 0, 0, 0⟩))), (FuncBody.stmts <| defBody ((cBody (top 5)).getD 0 (.Pass ⟨0, 0, 0, 0⟩))), (defScope ((cBody (top 5)).getD 0 (.Pass ⟨0, 0, 0, 0⟩))), 3, [], .none, .none, .none, (.str (.ofString "lastslips.notation") 194), none, (.ref 85), .none, 0⟩), ([]).toArray⟩),
  (87, ⟨(.type "tuple"), none, (.seq ([(.str (.ofString "station") 284)]).toArray 0), ([]).toArray⟩)]
def ad13 : List Addr := [830, 835, 840, 845, 29, 32, 48, 49, 67, 68, 86, 87]
def kl14 (W : Params) : List (Addr × Obj) := [
  (105, ⟨(.type "function"), none, (.func ⟨(.ofString "__init__"), (.ofString "BadPlace.__init__"), (defArgs ((cBody (top 6)).getD 0 (.Pass ⟨0, 0, 0, 0⟩))), (FuncBody.stmts <| defBody ((cBody (top 6)).getD 0 (.Pass ⟨0, 0, 0, 0⟩))), (defScope ((cBody (top 6)).getD 0 (.Pass ⟨0, 0, 0, 0⟩))), 3, [], .none, .none, .none, (.str (.ofString "lastslips.notation") 194), none, (.ref 104), .none, 0⟩), ([]).toArray⟩),
  (106, ⟨(.type "tuple"), none, (.seq ([(.str (.ofString "at") 310), (.str (.ofString "station") 311)]).toArray 0), ([]).toArray⟩),
  (124, ⟨(.type "function"), none, (.func ⟨(.ofString "__init__"), (.ofString "BadNumber.__init__"), (defArgs ((cBody (top 7)).getD 0 (.Pass ⟨0, 0, 0, 0⟩))), (FuncBody.stmts <| defBody ((cBody (top 7)).getD 0 (.Pass ⟨0, 0, 0, 0⟩))), (defScope ((cBody (top 7)).getD 0 (.Pass ⟨0, 0, 0, 0⟩))), 3, [], .none, .none, .none, (.str (.ofString "lastslips.notation") 194), none, (.ref 123), .none, 0⟩), ([]).toArray⟩),
  (125, ⟨(.type "tuple"), none, (.seq ([(.str (.ofString "what") 336)]).toArray 0), ([]).toArray⟩),
  (143, ⟨(.type "function"), none, (.func ⟨(.ofString "__init__"), (.ofString "TooMany.__init__"), (defArgs ((cBody (top 8)).getD 0 (.Pass ⟨0, 0, 0, 0⟩))), (FuncBody.stmts <| defBody ((cBody (top 8)).getD 0 (.Pass ⟨0, 0, 0, 0⟩))), (defScope ((cBody (top 8)).getD 0 (.Pass ⟨0, 0, 0, 0⟩))), 3, [], .none, .none, .none, (.str (.ofString "lastslips.notation") 194), none, (.ref 142), .none, 0⟩), ([]).toArray⟩),
  (144, ⟨(.type "tuple"), none, (.seq ([(.str (.ofString "limit") 362), (.str (.ofString "what") 363)]).toArray 0), ([]).toArray⟩),
  (162, ⟨(.type "function"), none, (.func ⟨(.ofString "__init__"), (.ofString "Empty.__init__"), (defArgs ((cBody (top 9)).getD 0 (.Pass ⟨0, 0, 0, 0⟩))), (FuncBody.stmts <| defBody ((cBody (top 9)).getD 0 (.Pass ⟨0, 0, 0, 0⟩))), (defScope ((cBody (top 9)).getD 0 (.Pass ⟨0, 0, 0, 0⟩))), 3, [], .none, .none, .none, (.str (.ofString "lastslips.notation") 194), none, (.ref 161), .none, 0⟩), ([]).toArray⟩),
  (163, ⟨(.type "tuple"), none, (.seq ([(.str (.ofString "what") 388)]).toArray 0), ([]).toArray⟩),
  (181, ⟨(.type "function"), none, (.func ⟨(.ofString "__init__"), (.ofString "Unframed.__init__"), (defArgs ((cBody (top 10)).getD 0 (.Pass ⟨0, 0, 0, 0⟩))), (FuncBody.stmts <| defBody ((cBody (top 10)).getD 0 (.Pass ⟨0, 0, 0, 0⟩))), (defScope ((cBody (top 10)).getD 0 (.Pass ⟨0, 0, 0, 0⟩))), 3, [], .none, .none, .none, (.str (.ofString "lastslips.notation") 194), none, (.ref 180), .none, 0⟩), ([]).toArray⟩),
  (182, ⟨(.type "tuple"), none, (.seq ([(.str (.ofString "station") 413)]).toArray 0), ([]).toArray⟩),
  (200, ⟨(.type "function"), none, (.func ⟨(.ofString "__init__"), (.ofString "NotPack.__init__"), (defArgs ((cBody (top 11)).getD 0 (.Pass ⟨0, 0, 0, 0⟩))), (FuncBody.stmts <| defBody ((cBody (top 11)).getD 0 (.Pass ⟨0, 0, 0, 0⟩))), (defScope ((cBody (top 11)).getD 0 (.Pass ⟨0, 0, 0, 0⟩))), 3, [], .none, .none, .none, (.str (.ofString "lastslips.notation") 194), none, (.ref 199), .none, 0⟩), ([]).toArray⟩),
  (201, ⟨(.type "tuple"), none, (.seq ([(.str (.ofString "what") 438)]).toArray 0), ([]).toArray⟩)]
def ad14 : List Addr := [105, 106, 124, 125, 143, 144, 162, 163, 181, 182, 200, 201]
def kl15 (W : Params) : List (Addr × Obj) := [
  (219, ⟨(.type "function"), none, (.func ⟨(.ofString "__init__"), (.ofString "Unlike.__init__"), (defArgs ((cBody (top 12)).getD 0 (.Pass ⟨0, 0, 0, 0⟩))), (FuncBody.stmts <| defBody ((cBody (top 12)).getD 0 (.Pass ⟨0, 0, 0, 0⟩))), (defScope ((cBody (top 12)).getD 0 (.Pass ⟨0, 0, 0, 0⟩))), 3, [], .none, .none, .none, (.str (.ofString "lastslips.notation") 194), none, (.ref 218), .none, 0⟩), ([]).toArray⟩),
  (220, ⟨(.type "tuple"), none, (.seq ([(.str (.ofString "what") 463)]).toArray 0), ([]).toArray⟩),
  (238, ⟨(.type "function"), none, (.func ⟨(.ofString "__init__"), (.ofString "Stuck.__init__"), (defArgs ((cBody (top 13)).getD 0 (.Pass ⟨0, 0, 0, 0⟩))), (FuncBody.stmts <| defBody ((cBody (top 13)).getD 0 (.Pass ⟨0, 0, 0, 0⟩))), (defScope ((cBody (top 13)).getD 0 (.Pass ⟨0, 0, 0, 0⟩))), 3, [], .none, .none, .none, (.str (.ofString "lastslips.notation") 194), none, (.ref 237), .none, 0⟩), ([]).toArray⟩),
  (239, ⟨(.type "tuple"), none, (.seq ([(.str (.ofString "courier") 488)]).toArray 0), ([]).toArray⟩),
  (251, ⟨(.type "tuple"), none, (.seq ([]).toArray 0), ([]).toArray⟩),
  (269, ⟨(.type "function"), none, (.func ⟨(.ofString "__init__"), (.ofString "LeftOver.__init__"), (defArgs ((cBody (top 15)).getD 0 (.Pass ⟨0, 0, 0, 0⟩))), (FuncBody.stmts <| defBody ((cBody (top 15)).getD 0 (.Pass ⟨0, 0, 0, 0⟩))), (defScope ((cBody (top 15)).getD 0 (.Pass ⟨0, 0, 0, 0⟩))), 3, [], .none, .none, .none, (.str (.ofString "lastslips.notation") 194), none, (.ref 268), .none, 0⟩), ([]).toArray⟩),
  (270, ⟨(.type "tuple"), none, (.seq ([(.str (.ofString "ring") 529)]).toArray 0), ([]).toArray⟩),
  (288, ⟨(.type "function"), none, (.func ⟨(.ofString "__init__"), (.ofString "NotTrail.__init__"), (defArgs ((cBody (top 16)).getD 0 (.Pass ⟨0, 0, 0, 0⟩))), (FuncBody.stmts <| defBody ((cBody (top 16)).getD 0 (.Pass ⟨0, 0, 0, 0⟩))), (defScope ((cBody (top 16)).getD 0 (.Pass ⟨0, 0, 0, 0⟩))), 3, [], .none, .none, .none, (.str (.ofString "lastslips.notation") 194), none, (.ref 287), .none, 0⟩), ([]).toArray⟩),
  (289, ⟨(.type "tuple"), none, (.seq ([(.str (.ofString "at") 554)]).toArray 0), ([]).toArray⟩),
  (307, ⟨(.type "function"), none, (.func ⟨(.ofString "__init__"), (.ofString "Blocked.__init__"), (defArgs ((cBody (top 17)).getD 0 (.Pass ⟨0, 0, 0, 0⟩))), (FuncBody.stmts <| defBody ((cBody (top 17)).getD 0 (.Pass ⟨0, 0, 0, 0⟩))), (defScope ((cBody (top 17)).getD 0 (.Pass ⟨0, 0, 0, 0⟩))), 3, [], .none, .none, .none, (.str (.ofString "lastslips.notation") 194), none, (.ref 306), .none, 0⟩), ([]).toArray⟩),
  (308, ⟨(.type "tuple"), none, (.seq ([(.str (.ofString "stations") 579)]).toArray 0), ([]).toArray⟩),
  (320, ⟨(.type "tuple"), none, (.seq ([]).toArray 0), ([]).toArray⟩)]
def ad15 : List Addr := [219, 220, 238, 239, 251, 269, 270, 288, 289, 307, 308, 320]
def kl16 (W : Params) : List (Addr × Obj) := [
  (338, ⟨(.type "function"), none, (.func ⟨(.ofString "__init__"), (.ofString "Opened.__init__"), (defArgs ((cBody (top 19)).getD 0 (.Pass ⟨0, 0, 0, 0⟩))), (FuncBody.stmts <| defBody ((cBody (top 19)).getD 0 (.Pass ⟨0, 0, 0, 0⟩))), (defScope ((cBody (top 19)).getD 0 (.Pass ⟨0, 0, 0, 0⟩))), 3, [], .none, .none, .none, (.str (.ofString "lastslips.notation") 194), none, (.ref 337), .none, 0⟩), ([]).toArray⟩),
  (339, ⟨(.type "tuple"), none, (.seq ([(.str (.ofString "at") 621), (.str (.ofString "station") 622)]).toArray 0), ([]).toArray⟩),
  (357, ⟨(.type "function"), none, (.func ⟨(.ofString "__init__"), (.ofString "Missing.__init__"), (defArgs ((cBody (top 20)).getD 0 (.Pass ⟨0, 0, 0, 0⟩))), (FuncBody.stmts <| defBody ((cBody (top 20)).getD 0 (.Pass ⟨0, 0, 0, 0⟩))), (defScope ((cBody (top 20)).getD 0 (.Pass ⟨0, 0, 0, 0⟩))), 3, [], .none, .none, .none, (.str (.ofString "lastslips.notation") 194), none, (.ref 356), .none, 0⟩), ([]).toArray⟩),
  (358, ⟨(.type "tuple"), none, (.seq ([(.str (.ofString "name") 647)]).toArray 0), ([]).toArray⟩),
  (376, ⟨(.type "function"), none, (.func ⟨(.ofString "__init__"), (.ofString "NotLocal.__init__"), (defArgs ((cBody (top 21)).getD 0 (.Pass ⟨0, 0, 0, 0⟩))), (FuncBody.stmts <| defBody ((cBody (top 21)).getD 0 (.Pass ⟨0, 0, 0, 0⟩))), (defScope ((cBody (top 21)).getD 0 (.Pass ⟨0, 0, 0, 0⟩))), 3, [], .none, .none, .none, (.str (.ofString "lastslips.notation") 194), none, (.ref 375), .none, 0⟩), ([]).toArray⟩),
  (377, ⟨(.type "tuple"), none, (.seq ([(.str (.ofString "station") 672)]).toArray 0), ([]).toArray⟩),
  (395, ⟨(.type "function"), none, (.func ⟨(.ofString "__init__"), (.ofString "NoPlan.__init__"), (defArgs ((cBody (top 22)).getD 0 (.Pass ⟨0, 0, 0, 0⟩))), (FuncBody.stmts <| defBody ((cBody (top 22)).getD 0 (.Pass ⟨0, 0, 0, 0⟩))), (defScope ((cBody (top 22)).getD 0 (.Pass ⟨0, 0, 0, 0⟩))), 3, [], .none, .none, .none, (.str (.ofString "lastslips.notation") 194), none, (.ref 394), .none, 0⟩), ([]).toArray⟩),
  (396, ⟨(.type "tuple"), none, (.seq ([(.str (.ofString "side") 697)]).toArray 0), ([]).toArray⟩),
  (414, ⟨(.type "function"), none, (.func ⟨(.ofString "__init__"), (.ofString "Doubled.__init__"), (defArgs ((cBody (top 23)).getD 0 (.Pass ⟨0, 0, 0, 0⟩))), (FuncBody.stmts <| defBody ((cBody (top 23)).getD 0 (.Pass ⟨0, 0, 0, 0⟩))), (defScope ((cBody (top 23)).getD 0 (.Pass ⟨0, 0, 0, 0⟩))), 3, [], .none, .none, .none, (.str (.ofString "lastslips.notation") 194), none, (.ref 413), .none, 0⟩), ([]).toArray⟩),
  (415, ⟨(.type "tuple"), none, (.seq ([(.str (.ofString "what") 722)]).toArray 0), ([]).toArray⟩),
  (433, ⟨(.type "function"), none, (.func ⟨(.ofString "__init__"), (.ofString "BadCard.__init__"), (defArgs ((cBody (top 24)).getD 0 (.Pass ⟨0, 0, 0, 0⟩))), (FuncBody.stmts <| defBody ((cBody (top 24)).getD 0 (.Pass ⟨0, 0, 0, 0⟩))), (defScope ((cBody (top 24)).getD 0 (.Pass ⟨0, 0, 0, 0⟩))), 3, [], .none, .none, .none, (.str (.ofString "lastslips.notation") 194), none, (.ref 432), .none, 0⟩), ([]).toArray⟩),
  (434, ⟨(.type "tuple"), none, (.seq ([(.str (.ofString "card") 747)]).toArray 0), ([]).toArray⟩)]
def ad16 : List Addr := [338, 339, 357, 358, 376, 377, 395, 396, 414, 415, 433, 434]
def kl17 (W : Params) : List (Addr × Obj) := [
  (452, ⟨(.type "function"), none, (.func ⟨(.ofString "__init__"), (.ofString "Unknown.__init__"), (defArgs ((cBody (top 25)).getD 0 (.Pass ⟨0, 0, 0, 0⟩))), (FuncBody.stmts <| defBody ((cBody (top 25)).getD 0 (.Pass ⟨0, 0, 0, 0⟩))), (defScope ((cBody (top 25)).getD 0 (.Pass ⟨0, 0, 0, 0⟩))), 3, [], .none, .none, .none, (.str (.ofString "lastslips.notation") 194), none, (.ref 451), .none, 0⟩), ([]).toArray⟩),
  (453, ⟨(.type "tuple"), none, (.seq ([(.str (.ofString "name") 772)]).toArray 0), ([]).toArray⟩),
  (471, ⟨(.type "function"), none, (.func ⟨(.ofString "__init__"), (.ofString "NotEnd.__init__"), (defArgs ((cBody (top 26)).getD 0 (.Pass ⟨0, 0, 0, 0⟩))), (FuncBody.stmts <| defBody ((cBody (top 26)).getD 0 (.Pass ⟨0, 0, 0, 0⟩))), (defScope ((cBody (top 26)).getD 0 (.Pass ⟨0, 0, 0, 0⟩))), 3, [], .none, .none, .none, (.str (.ofString "lastslips.notation") 194), none, (.ref 470), .none, 0⟩), ([]).toArray⟩),
  (472, ⟨(.type "tuple"), none, (.seq ([(.str (.ofString "station") 797)]).toArray 0), ([]).toArray⟩),
  (516, ⟨(.type "function"), none, (.func ⟨(.ofString "__init__"), (.ofString "Deal.__init__"), (defArgs ((cBody (top 34)).getD 4 (.Pass ⟨0, 0, 0, 0⟩))), (FuncBody.stmts <| defBody ((cBody (top 34)).getD 4 (.Pass ⟨0, 0, 0, 0⟩))), (defScope ((cBody (top 34)).getD 4 (.Pass ⟨0, 0, 0, 0⟩))), 3, [], .none, .none, .none, (.str (.ofString "lastslips.deal") 842), none, (.ref 515), .none, 0⟩), ([]).toArray⟩),
  (523, ⟨(.type "function"), none, (.func ⟨(.ofString "__eq__"), (.ofString "Deal.__eq__"), (defArgs ((cBody (top 34)).getD 5 (.Pass ⟨0, 0, 0, 0⟩))), (FuncBody.stmts <| defBody ((cBody (top 34)).getD 5 (.Pass ⟨0, 0, 0, 0⟩))), (defScope ((cBody (top 34)).getD 5 (.Pass ⟨0, 0, 0, 0⟩))), 3, [], .none, .none, .none, (.str (.ofString "lastslips.deal") 842), none, (.ref 522), .none, 0⟩), ([]).toArray⟩),
  (528, ⟨(.type "function"), none, (.func ⟨(.ofString "__len__"), (.ofString "Deal.__len__"), (defArgs ((cBody (top 34)).getD 6 (.Pass ⟨0, 0, 0, 0⟩))), (FuncBody.stmts <| defBody ((cBody (top 34)).getD 6 (.Pass ⟨0, 0, 0, 0⟩))), (defScope ((cBody (top 34)).getD 6 (.Pass ⟨0, 0, 0, 0⟩))), 3, [], .none, .none, .none, (.str (.ofString "lastslips.deal") 842), none, (.ref 527), .none, 0⟩), ([]).toArray⟩),
  (536, ⟨(.type "property"), none, (.fields ([(.ref 535), .none, .none, .none, (.str (.ofString "station_count") 891), (.bool false)]).toArray), ([]).toArray⟩),
  (544, ⟨(.type "property"), none, (.fields ([(.ref 543), .none, .none, .none, (.str (.ofString "slip_count") 899), (.bool false)]).toArray), ([]).toArray⟩),
  (552, ⟨(.type "property"), none, (.fields ([(.ref 551), .none, .none, .none, (.str (.ofString "courier_count") 907), (.bool false)]).toArray), ([]).toArray⟩),
  (553, ⟨(.type "tuple"), none, (.seq ([(.str (.ofString "piles") 908), (.str (.ofString "starts") 909)]).toArray 0), ([]).toArray⟩),
  (556, ⟨(.type "getset_descriptor"), none, (.fields ([(.str (.ofString "__dict__") 911), (.ref 555), (.builtin "function.__dict__"), (.builtin "function.__dict__#set")]).toArray), ([]).toArray⟩)]
def ad17 : List Addr := [452, 453, 471, 472, 516, 523, 528, 536, 544, 552, 553, 556]
def kl18 (W : Params) : List (Addr × Obj) := [
  (557, ⟨(.type "getset_descriptor"), none, (.fields ([(.str (.ofString "__weakref__") 913), (.ref 555), (.builtin "ExceptionGroup.__weakref__"), .none]).toArray), ([]).toArray⟩),
  (607, ⟨(.type "tuple"), none, (.seq ([]).toArray 0), ([]).toArray⟩),
  (47, ⟨(.type "code"), none, (.fields ([(.str (.ofString "__init__") 226), (.str (.ofString "BadText.__init__") 227), (.str (.ofString "/claim/cut.py") 228), (.int (.ofNat 9) 0), (.int (.ofNat 2) 0), (.int (.ofNat 0) 0), (.int (.ofNat 0) 0), (.int (.ofNat 3) 0), (.ref 42), (.bool true), (.int (.ofNat 181) 0), (.ref 43), .none, (.ref 44), (.ref 45), (.ref 46), (.int (.ofNat 231) 0), (.int (.ofNat 9) 0), (.str (.ofString "/claim/cut.py") 232)]).toArray), ([]).toArray⟩),
  (66, ⟨(.type "code"), none, (.fields ([(.str (.ofString "__init__") 251), (.str (.ofString "Malformed.__init__") 252), (.str (.ofString "/claim/cut.py") 253), (.int (.ofNat 13) 0), (.int (.ofNat 2) 0), (.int (.ofNat 0) 0), (.int (.ofNat 0) 0), (.int (.ofNat 3) 0), (.ref 61), (.bool true), (.int (.ofNat 181) 0), (.ref 62), .none, (.ref 63), (.ref 64), (.ref 65), (.int (.ofNat 256) 0), (.int (.ofNat 13) 0), (.str (.ofString "/claim/cut.py") 257)]).toArray), ([]).toArray⟩),
  (85, ⟨(.type "code"), none, (.fields ([(.str (.ofString "__init__") 276), (.str (.ofString "BadStation.__init__") 277), (.str (.ofString "/claim/cut.py") 278), (.int (.ofNat 17) 0), (.int (.ofNat 2) 0), (.int (.ofNat 0) 0), (.int (.ofNat 0) 0), (.int (.ofNat 3) 0), (.ref 80), (.bool true), (.int (.ofNat 181) 0), (.ref 81), .none, (.ref 82), (.ref 83), (.ref 84), (.int (.ofNat 281) 0), (.int (.ofNat 17) 0), (.str (.ofString "/claim/cut.py") 282)]).toArray), ([]).toArray⟩),
  (104, ⟨(.type "code"), none, (.fields ([(.str (.ofString "__init__") 301), (.str (.ofString "BadPlace.__init__") 302), (.str (.ofString "/claim/cut.py") 303), (.int (.ofNat 21) 0), (.int (.ofNat 3) 0), (.int (.ofNat 0) 0), (.int (.ofNat 0) 0), (.int (.ofNat 3) 0), (.ref 99), (.bool true), (.int (.ofNat 181) 0), (.ref 100), .none, (.ref 101), (.ref 102), (.ref 103), (.int (.ofNat 307) 0), (.int (.ofNat 21) 0), (.str (.ofString "/claim/cut.py") 308)]).toArray), ([]).toArray⟩),
  (123, ⟨(.type "code"), none, (.fields ([(.str (.ofString "__init__") 328), (.str (.ofString "BadNumber.__init__") 329), (.str (.ofString "/claim/cut.py") 330), (.int (.ofNat 26) 0), (.int (.ofNat 2) 0), (.int (.ofNat 0) 0), (.int (.ofNat 0) 0), (.int (.ofNat 3) 0), (.ref 118), (.bool true), (.int (.ofNat 181) 0), (.ref 119), .none, (.ref 120), (.ref 121), (.ref 122), (.int (.ofNat 333) 0), (.int (.ofNat 26) 0), (.str (.ofString "/claim/cut.py") 334)]).toArray), ([]).toArray⟩),
  (142, ⟨(.type "code"), none, (.fields ([(.str (.ofString "__init__") 353), (.str (.ofString "TooMany.__init__") 354), (.str (.ofString "/claim/cut.py") 355), (.int (.ofNat 30) 0), (.int (.ofNat 3) 0), (.int (.ofNat 0) 0), (.int (.ofNat 0) 0), (.int (.ofNat 3) 0), (.ref 137), (.bool true), (.int (.ofNat 181) 0), (.ref 138), .none, (.ref 139), (.ref 140), (.ref 141), (.int (.ofNat 359) 0), (.int (.ofNat 30) 0), (.str (.ofString "/claim/cut.py") 360)]).toArray), ([]).toArray⟩),
  (161, ⟨(.type "code"), none, (.fields ([(.str (.ofString "__init__") 380), (.str (.ofString "Empty.__init__") 381), (.str (.ofString "/claim/cut.py") 382), (.int (.ofNat 35) 0), (.int (.ofNat 2) 0), (.int (.ofNat 0) 0), (.int (.ofNat 0) 0), (.int (.ofNat 3) 0), (.ref 156), (.bool true), (.int (.ofNat 181) 0), (.ref 157), .none, (.ref 158), (.ref 159), (.ref 160), (.int (.ofNat 385) 0), (.int (.ofNat 35) 0), (.str (.ofString "/claim/cut.py") 386)]).toArray), ([]).toArray⟩),
  (180, ⟨(.type "code"), none, (.fields ([(.str (.ofString "__init__") 405), (.str (.ofString "Unframed.__init__") 406), (.str (.ofString "/claim/cut.py") 407), (.int (.ofNat 39) 0), (.int (.ofNat 2) 0), (.int (.ofNat 0) 0), (.int (.ofNat 0) 0), (.int (.ofNat 3) 0), (.ref 175), (.bool true), (.int (.ofNat 181) 0), (.ref 176), .none, (.ref 177), (.ref 178), (.ref 179), (.int (.ofNat 410) 0), (.int (.ofNat 39) 0), (.str (.ofString "/claim/cut.py") 411)]).toArray), ([]).toArray⟩),
  (199, ⟨(.type "code"), none, (.fields ([(.str (.ofString "__init__") 430), (.str (.ofString "NotPack.__init__") 431), (.str (.ofString "/claim/cut.py") 432), (.int (.ofNat 43) 0), (.int (.ofNat 2) 0), (.int (.ofNat 0) 0), (.int (.ofNat 0) 0), (.int (.ofNat 3) 0), (.ref 194), (.bool true), (.int (.ofNat 181) 0), (.ref 195), .none, (.ref 196), (.ref 197), (.ref 198), (.int (.ofNat 435) 0), (.int (.ofNat 43) 0), (.str (.ofString "/claim/cut.py") 436)]).toArray), ([]).toArray⟩),
  (218, ⟨(.type "code"), none, (.fields ([(.str (.ofString "__init__") 455), (.str (.ofString "Unlike.__init__") 456), (.str (.ofString "/claim/cut.py") 457), (.int (.ofNat 47) 0), (.int (.ofNat 2) 0), (.int (.ofNat 0) 0), (.int (.ofNat 0) 0), (.int (.ofNat 3) 0), (.ref 213), (.bool true), (.int (.ofNat 181) 0), (.ref 214), .none, (.ref 215), (.ref 216), (.ref 217), (.int (.ofNat 460) 0), (.int (.ofNat 47) 0), (.str (.ofString "/claim/cut.py") 461)]).toArray), ([]).toArray⟩)]
def ad18 : List Addr := [557, 607, 47, 66, 85, 104, 123, 142, 161, 180, 199, 218]
def kl19 (W : Params) : List (Addr × Obj) := [
  (237, ⟨(.type "code"), none, (.fields ([(.str (.ofString "__init__") 480), (.str (.ofString "Stuck.__init__") 481), (.str (.ofString "/claim/cut.py") 482), (.int (.ofNat 51) 0), (.int (.ofNat 2) 0), (.int (.ofNat 0) 0), (.int (.ofNat 0) 0), (.int (.ofNat 3) 0), (.ref 232), (.bool true), (.int (.ofNat 181) 0), (.ref 233), .none, (.ref 234), (.ref 235), (.ref 236), (.int (.ofNat 485) 0), (.int (.ofNat 51) 0), (.str (.ofString "/claim/cut.py") 486)]).toArray), ([]).toArray⟩),
  (268, ⟨(.type "code"), none, (.fields ([(.str (.ofString "__init__") 521), (.str (.ofString "LeftOver.__init__") 522), (.str (.ofString "/claim/cut.py") 523), (.int (.ofNat 57) 0), (.int (.ofNat 2) 0), (.int (.ofNat 0) 0), (.int (.ofNat 0) 0), (.int (.ofNat 3) 0), (.ref 263), (.bool true), (.int (.ofNat 181) 0), (.ref 264), .none, (.ref 265), (.ref 266), (.ref 267), (.int (.ofNat 526) 0), (.int (.ofNat 57) 0), (.str (.ofString "/claim/cut.py") 527)]).toArray), ([]).toArray⟩),
  (287, ⟨(.type "code"), none, (.fields ([(.str (.ofString "__init__") 546), (.str (.ofString "NotTrail.__init__") 547), (.str (.ofString "/claim/cut.py") 548), (.int (.ofNat 61) 0), (.int (.ofNat 2) 0), (.int (.ofNat 0) 0), (.int (.ofNat 0) 0), (.int (.ofNat 3) 0), (.ref 282), (.bool true), (.int (.ofNat 181) 0), (.ref 283), .none, (.ref 284), (.ref 285), (.ref 286), (.int (.ofNat 551) 0), (.int (.ofNat 61) 0), (.str (.ofString "/claim/cut.py") 552)]).toArray), ([]).toArray⟩),
  (306, ⟨(.type "code"), none, (.fields ([(.str (.ofString "__init__") 571), (.str (.ofString "Blocked.__init__") 572), (.str (.ofString "/claim/cut.py") 573), (.int (.ofNat 65) 0), (.int (.ofNat 2) 0), (.int (.ofNat 0) 0), (.int (.ofNat 0) 0), (.int (.ofNat 3) 0), (.ref 301), (.bool true), (.int (.ofNat 181) 0), (.ref 302), .none, (.ref 303), (.ref 304), (.ref 305), (.int (.ofNat 576) 0), (.int (.ofNat 65) 0), (.str (.ofString "/claim/cut.py") 577)]).toArray), ([]).toArray⟩),
  (337, ⟨(.type "code"), none, (.fields ([(.str (.ofString "__init__") 612), (.str (.ofString "Opened.__init__") 613), (.str (.ofString "/claim/cut.py") 614), (.int (.ofNat 71) 0), (.int (.ofNat 3) 0), (.int (.ofNat 0) 0), (.int (.ofNat 0) 0), (.int (.ofNat 3) 0), (.ref 332), (.bool true), (.int (.ofNat 181) 0), (.ref 333), .none, (.ref 334), (.ref 335), (.ref 336), (.int (.ofNat 618) 0), (.int (.ofNat 71) 0), (.str (.ofString "/claim/cut.py") 619)]).toArray), ([]).toArray⟩),
  (356, ⟨(.type "code"), none, (.fields ([(.str (.ofString "__init__") 639), (.str (.ofString "Missing.__init__") 640), (.str (.ofString "/claim/cut.py") 641), (.int (.ofNat 76) 0), (.int (.ofNat 2) 0), (.int (.ofNat 0) 0), (.int (.ofNat 0) 0), (.int (.ofNat 3) 0), (.ref 351), (.bool true), (.int (.ofNat 181) 0), (.ref 352), .none, (.ref 353), (.ref 354), (.ref 355), (.int (.ofNat 644) 0), (.int (.ofNat 76) 0), (.str (.ofString "/claim/cut.py") 645)]).toArray), ([]).toArray⟩),
  (375, ⟨(.type "code"), none, (.fields ([(.str (.ofString "__init__") 664), (.str (.ofString "NotLocal.__init__") 665), (.str (.ofString "/claim/cut.py") 666), (.int (.ofNat 80) 0), (.int (.ofNat 2) 0), (.int (.ofNat 0) 0), (.int (.ofNat 0) 0), (.int (.ofNat 3) 0), (.ref 370), (.bool true), (.int (.ofNat 181) 0), (.ref 371), .none, (.ref 372), (.ref 373), (.ref 374), (.int (.ofNat 669) 0), (.int (.ofNat 80) 0), (.str (.ofString "/claim/cut.py") 670)]).toArray), ([]).toArray⟩),
  (394, ⟨(.type "code"), none, (.fields ([(.str (.ofString "__init__") 689), (.str (.ofString "NoPlan.__init__") 690), (.str (.ofString "/claim/cut.py") 691), (.int (.ofNat 84) 0), (.int (.ofNat 2) 0), (.int (.ofNat 0) 0), (.int (.ofNat 0) 0), (.int (.ofNat 3) 0), (.ref 389), (.bool true), (.int (.ofNat 181) 0), (.ref 390), .none, (.ref 391), (.ref 392), (.ref 393), (.int (.ofNat 694) 0), (.int (.ofNat 84) 0), (.str (.ofString "/claim/cut.py") 695)]).toArray), ([]).toArray⟩),
  (413, ⟨(.type "code"), none, (.fields ([(.str (.ofString "__init__") 714), (.str (.ofString "Doubled.__init__") 715), (.str (.ofString "/claim/cut.py") 716), (.int (.ofNat 88) 0), (.int (.ofNat 2) 0), (.int (.ofNat 0) 0), (.int (.ofNat 0) 0), (.int (.ofNat 3) 0), (.ref 408), (.bool true), (.int (.ofNat 181) 0), (.ref 409), .none, (.ref 410), (.ref 411), (.ref 412), (.int (.ofNat 719) 0), (.int (.ofNat 88) 0), (.str (.ofString "/claim/cut.py") 720)]).toArray), ([]).toArray⟩),
  (432, ⟨(.type "code"), none, (.fields ([(.str (.ofString "__init__") 739), (.str (.ofString "BadCard.__init__") 740), (.str (.ofString "/claim/cut.py") 741), (.int (.ofNat 92) 0), (.int (.ofNat 2) 0), (.int (.ofNat 0) 0), (.int (.ofNat 0) 0), (.int (.ofNat 3) 0), (.ref 427), (.bool true), (.int (.ofNat 181) 0), (.ref 428), .none, (.ref 429), (.ref 430), (.ref 431), (.int (.ofNat 744) 0), (.int (.ofNat 92) 0), (.str (.ofString "/claim/cut.py") 745)]).toArray), ([]).toArray⟩),
  (451, ⟨(.type "code"), none, (.fields ([(.str (.ofString "__init__") 764), (.str (.ofString "Unknown.__init__") 765), (.str (.ofString "/claim/cut.py") 766), (.int (.ofNat 96) 0), (.int (.ofNat 2) 0), (.int (.ofNat 0) 0), (.int (.ofNat 0) 0), (.int (.ofNat 3) 0), (.ref 446), (.bool true), (.int (.ofNat 181) 0), (.ref 447), .none, (.ref 448), (.ref 449), (.ref 450), (.int (.ofNat 769) 0), (.int (.ofNat 96) 0), (.str (.ofString "/claim/cut.py") 770)]).toArray), ([]).toArray⟩),
  (470, ⟨(.type "code"), none, (.fields ([(.str (.ofString "__init__") 789), (.str (.ofString "NotEnd.__init__") 790), (.str (.ofString "/claim/cut.py") 791), (.int (.ofNat 100) 0), (.int (.ofNat 2) 0), (.int (.ofNat 0) 0), (.int (.ofNat 0) 0), (.int (.ofNat 3) 0), (.ref 465), (.bool true), (.int (.ofNat 181) 0), (.ref 466), .none, (.ref 467), (.ref 468), (.ref 469), (.int (.ofNat 794) 0), (.int (.ofNat 100) 0), (.str (.ofString "/claim/cut.py") 795)]).toArray), ([]).toArray⟩)]
def ad19 : List Addr := [237, 268, 287, 306, 337, 356, 375, 394, 413, 432, 451, 470]
def kl20 (W : Params) : List (Addr × Obj) := [
  (515, ⟨(.type "code"), none, (.fields ([(.str (.ofString "__init__") 864), (.str (.ofString "Deal.__init__") 865), (.str (.ofString "/claim/cut.py") 866), (.int (.ofNat 137) 0), (.int (.ofNat 3) 0), (.int (.ofNat 0) 0), (.int (.ofNat 0) 0), (.int (.ofNat 3) 0), (.ref 512), (.bool true), (.int (.ofNat 181) 0), (.ref 513), .none, .none, .none, (.ref 514), (.int (.ofNat 867) 0), (.int (.ofNat 137) 0), (.str (.ofString "/claim/cut.py") 868)]).toArray), ([]).toArray⟩),
  (522, ⟨(.type "code"), none, (.fields ([(.str (.ofString "__eq__") 870), (.str (.ofString "Deal.__eq__") 871), (.str (.ofString "/claim/cut.py") 872), (.int (.ofNat 141) 0), (.int (.ofNat 2) 0), (.int (.ofNat 0) 0), (.int (.ofNat 0) 0), (.int (.ofNat 3) 0), (.ref 517), (.bool true), (.int (.ofNat 181) 0), (.ref 518), .none, (.ref 519), (.ref 520), (.ref 521), (.int (.ofNat 875) 0), (.int (.ofNat 141) 0), (.str (.ofString "/claim/cut.py") 876)]).toArray), ([]).toArray⟩),
  (527, ⟨(.type "code"), none, (.fields ([(.str (.ofString "__len__") 878), (.str (.ofString "Deal.__len__") 879), (.str (.ofString "/claim/cut.py") 880), (.int (.ofNat 144) 0), (.int (.ofNat 1) 0), (.int (.ofNat 0) 0), (.int (.ofNat 0) 0), (.int (.ofNat 3) 0), (.ref 524), (.bool true), (.int (.ofNat 181) 0), (.ref 525), .none, .none, .none, (.ref 526), (.int (.ofNat 881) 0), (.int (.ofNat 144) 0), (.str (.ofString "/claim/cut.py") 882)]).toArray), ([]).toArray⟩)]
def ad20 : List Addr := [515, 522, 527]
def KL (W : Params) : PySem.W.Frag := kl0 W ++ (kl1 W ++ (kl2 W ++ (kl3 W ++ (kl4 W ++ (kl5 W ++ (kl6 W ++ (kl7 W ++ (kl8 W ++ (kl9 W ++ (kl10 W ++ (kl11 W ++ (kl12 W ++ (kl13 W ++ (kl14 W ++ (kl15 W ++ (kl16 W ++ (kl17 W ++ (kl18 W ++ (kl19 W ++ (kl20 W))))))))))))))))))))
def ADR : List Addr := ad0 ++ (ad1 ++ (ad2 ++ (ad3 ++ (ad4 ++ (ad5 ++ (ad6 ++ (ad7 ++ (ad8 ++ (ad9 ++ (ad10 ++ (ad11 ++ (ad12 ++ (ad13 ++ (ad14 ++ (ad15 ++ (ad16 ++ (ad17 ++ (ad18 ++ (ad19 ++ (ad20))))))))))))))))))))
theorem adr_eq (W : Params) : ADR = (KL W).map (·.1) := by kernel_rfl
end K80
-- TR
set_option maxHeartbeats 0
namespace K80
open PySem PySem.Spec PyProof.Rows L2 VL
def lo0 : List Str := ["_wall", "__name__", "Refused", "BadText", "Malformed", "BadStation", "BadPlace", "BadNumber", "TooMany", "Empty", "Unframed", "NotPack", "Unlike", "Stuck", "NothingBack", "LeftOver", "NotTrail", "Blocked", "Unnamed", "Opened", "Missing", "NotLocal", "NoPlan", "Doubled", "BadCard", "Unknown", "NotEnd", "MOST_STATIONS", "check_arrows", "check_index"]
def lo1 : List Str := ["from_least", "rings_of", "Deal", "check_station", "check_count", "check_pile", "check_total", "check_piles", "check_starts", "tally_of", "make_deal", "sizes_of", "pack_of", "bottoms", "last_slips", "take_step", "run", "comes_out", "lacks", "lacking_rings", "fewest_starts", "best_starts", "judge_starts", "_law_mix", "_law_store", "_law_take", "_law_shuffled", "_law_end_counts", "_law_other_row", "_law_same"]
def lo2 : List Str := ["_law_same_leaf", "_law_pack_of", "_law_run", "_law_aim_row", "_law_ring_rows", "_law_seats", "_law_class_of", "_law_refusal_of", "_law_ask", "_law_told", "_law_takes_all", "_law_least", "_law_rule", "_law_judged", "_law_rows_of_starts", "_law_odd", "_law_odd_piles", "_law_trouble"]
def loose : List Str := lo0 ++ lo1 ++ lo2
abbrev R : PySem.W.OpenRow := PySem.W.OpenLaw.row PySem.Challenge.rw_lastslips_k80_fewest_starts
abbrev hk : PySem.W.Hook := PySem.W.kHook KL ADR adr_eq
def ob (s : PySem.W.SharedT) : List (Option Obj) := ADR.map (HandSHeadRun.getT s)
theorem ob_eq (s : PySem.W.SharedT) : ob s = hk.obs s.abs := List.map_congr_left fun a _ => HandSHeadRun.getT_eq s a
theorem run (w : World) : HandSHeadRun.RunEq R (PySem.W.view R.prog [84]) hk ob 60000 loose w := by
  intro os
  kernel_rfl
end K80
-- TFx
set_option maxHeartbeats 0
namespace K80
open PySem PySem.Spec PyProof.Rows L2 VL
def fa0 : List He.Fa := [.free "len", .free "range", .free "sum", .free "list", .free "tuple", .free "sorted", .free "min", .free "max", .free "abs", .free "int", .free "isinstance", .free "enumerate", .free "zip", .free "str", .free "bool", .free "ValueError", .int "MOST_STATIONS" 40, .glo "Refused", .glo "BadText", .glo "Malformed"]
theorem fo0 (W : Params) : (fa0.all fun f => f.ok (KL W)) = true := by kernel_rfl
def fa1 : List He.Fa := [.glo "BadStation", .glo "BadPlace", .glo "BadNumber", .glo "TooMany", .glo "Empty", .glo "Unframed", .glo "NotPack", .glo "Unlike", .glo "Stuck", .glo "NothingBack", .glo "LeftOver", .glo "NotTrail", .glo "Blocked", .glo "Unnamed", .glo "Opened", .glo "Missing", .glo "NotLocal", .glo "NoPlan", .glo "Doubled", .glo "BadCard"]
theorem fo1 (W : Params) : (fa1.all fun f => f.ok (KL W)) = true := by kernel_rfl
def fa2 : List He.Fa := [.glo "Unknown", .glo "NotEnd", .glo "Deal", .glo "check_arrows", .glo "check_index", .glo "from_least", .glo "rings_of", .glo "check_station", .glo "check_count", .glo "check_pile", .glo "check_total", .glo "check_piles", .glo "check_starts", .glo "tally_of", .glo "make_deal", .glo "sizes_of", .glo "pack_of", .glo "bottoms", .glo "last_slips", .glo "take_step"]
theorem fo2 (W : Params) : (fa2.all fun f => f.ok (KL W)) = true := by kernel_rfl
def fa3 : List He.Fa := [.glo "run", .glo "comes_out", .glo "lacks", .glo "lacking_rings", .glo "fewest_starts", .glo "best_starts", .glo "judge_starts", .glo "_law_mix", .glo "_law_store", .glo "_law_take", .glo "_law_shuffled", .glo "_law_end_counts", .glo "_law_other_row", .glo "_law_same", .glo "_law_same_leaf", .glo "_law_pack_of", .glo "_law_run", .glo "_law_aim_row", .glo "_law_ring_rows", .glo "_law_seats"]
theorem fo3 (W : Params) : (fa3.all fun f => f.ok (KL W)) = true := by kernel_rfl
def fa4 : List He.Fa := [.glo "_law_class_of", .glo "_law_refusal_of", .glo "_law_ask", .glo "_law_told", .glo "_law_takes_all", .glo "_law_least", .glo "_law_rule", .glo "_law_judged", .glo "_law_rows_of_starts", .glo "_law_odd", .glo "_law_odd_piles", .glo "_law_trouble", .glo "law", .cls "Deal", .noat "Deal" "piles", .noat "Deal" "starts", .mkr "Deal"]
theorem fo4 (W : Params) : (fa4.all fun f => f.ok (KL W)) = true := by kernel_rfl
theorem cr_Deal (W : Params) : ClX.CRead (KL W) (He.ga (KL W) "Deal") (.type "type") := ⟨by kernel_rfl, by kernel_rfl⟩
theorem cv_Deal_STATIONS (W : Params) : cvB (KL W) (He.ga (KL W) "Deal") "STATIONS" 40 = true := by kernel_rfl
theorem cv_Deal_PILE (W : Params) : cvB (KL W) (He.ga (KL W) "Deal") "PILE" 60 = true := by kernel_rfl
theorem cv_Deal_SLIPS (W : Params) : cvB (KL W) (He.ga (KL W) "Deal") "SLIPS" 300 = true := by kernel_rfl
theorem cv_Deal_COURIERS (W : Params) : cvB (KL W) (He.ga (KL W) "Deal") "COURIERS" 40 = true := by kernel_rfl
theorem t_make (W : Params) : tpB (KL W) (He.dflAt ("make_deal", none) 0 (KL W)) = true := by kernel_rfl
theorem kit2 (W : Params) : kitB2 (KL W) RAISED ALLX = true := by kernel_rfl
theorem ve2 (W : Params) : veB (KL W) RAISED = true := by kernel_rfl
theorem exb_BadStation (W : Params) : excB (KL W) (He.ga (KL W) "BadStation") = true := by kernel_rfl
theorem oxb_BadStation (W : Params) : oexB (KL W) (He.ga (KL W) "BadStation") = true := by kernel_rfl
theorem nob_BadStation (W : Params) : noB (KL W) (He.ga (KL W) "BadStation") ["station"] = true := by kernel_rfl
theorem inb_BadStation (W : Params) : inB (KL W) (He.ga (KL W) "BadStation") = true := by kernel_rfl
theorem exb_BadPlace (W : Params) : excB (KL W) (He.ga (KL W) "BadPlace") = true := by kernel_rfl
theorem oxb_BadPlace (W : Params) : oexB (KL W) (He.ga (KL W) "BadPlace") = true := by kernel_rfl
theorem nob_BadPlace (W : Params) : noB (KL W) (He.ga (KL W) "BadPlace") ["station", "at"] = true := by kernel_rfl
theorem inb_BadPlace (W : Params) : inB (KL W) (He.ga (KL W) "BadPlace") = true := by kernel_rfl
theorem exb_BadNumber (W : Params) : excB (KL W) (He.ga (KL W) "BadNumber") = true := by kernel_rfl
theorem oxb_BadNumber (W : Params) : oexB (KL W) (He.ga (KL W) "BadNumber") = true := by kernel_rfl
theorem nob_BadNumber (W : Params) : noB (KL W) (He.ga (KL W) "BadNumber") ["what"] = true := by kernel_rfl
theorem inb_BadNumber (W : Params) : inB (KL W) (He.ga (KL W) "BadNumber") = true := by kernel_rfl
theorem exb_TooMany (W : Params) : excB (KL W) (He.ga (KL W) "TooMany") = true := by kernel_rfl
theorem oxb_TooMany (W : Params) : oexB (KL W) (He.ga (KL W) "TooMany") = true := by kernel_rfl
theorem nob_TooMany (W : Params) : noB (KL W) (He.ga (KL W) "TooMany") ["what", "limit"] = true := by kernel_rfl
theorem inb_TooMany (W : Params) : inB (KL W) (He.ga (KL W) "TooMany") = true := by kernel_rfl
theorem exb_Empty (W : Params) : excB (KL W) (He.ga (KL W) "Empty") = true := by kernel_rfl
theorem oxb_Empty (W : Params) : oexB (KL W) (He.ga (KL W) "Empty") = true := by kernel_rfl
theorem nob_Empty (W : Params) : noB (KL W) (He.ga (KL W) "Empty") ["what"] = true := by kernel_rfl
theorem inb_Empty (W : Params) : inB (KL W) (He.ga (KL W) "Empty") = true := by kernel_rfl
theorem exb_Unframed (W : Params) : excB (KL W) (He.ga (KL W) "Unframed") = true := by kernel_rfl
theorem oxb_Unframed (W : Params) : oexB (KL W) (He.ga (KL W) "Unframed") = true := by kernel_rfl
theorem nob_Unframed (W : Params) : noB (KL W) (He.ga (KL W) "Unframed") ["station"] = true := by kernel_rfl
theorem inb_Unframed (W : Params) : inB (KL W) (He.ga (KL W) "Unframed") = true := by kernel_rfl
theorem exb_NotPack (W : Params) : excB (KL W) (He.ga (KL W) "NotPack") = true := by kernel_rfl
theorem oxb_NotPack (W : Params) : oexB (KL W) (He.ga (KL W) "NotPack") = true := by kernel_rfl
theorem nob_NotPack (W : Params) : noB (KL W) (He.ga (KL W) "NotPack") ["what"] = true := by kernel_rfl
theorem inb_NotPack (W : Params) : inB (KL W) (He.ga (KL W) "NotPack") = true := by kernel_rfl
end K80
-- TF0
set_option maxHeartbeats 0
namespace K80
open PySem PySem.Spec PyProof.Rows L2 VL
def dd_check_arrows : He.DefD := ⟨("check_arrows", none), "check_arrows", "check_arrows", defArgs (top 29), defBody (top 29), defScope (top 29), [], []⟩
theorem dv_check_arrows (W : Params) : He.fnW (KL W) dd_check_arrows.at_ = dd_check_arrows.val := by kernel_rfl
theorem dk_check_arrows (W : Params) : dd_check_arrows.ok (KL W) = true := by kernel_rfl
def dd_check_index : He.DefD := ⟨("check_index", none), "check_index", "check_index", defArgs (top 30), defBody (top 30), defScope (top 30), [], []⟩
theorem dv_check_index (W : Params) : He.fnW (KL W) dd_check_index.at_ = dd_check_index.val := by kernel_rfl
theorem dk_check_index (W : Params) : dd_check_index.ok (KL W) = true := by kernel_rfl
def dd_from_least : He.DefD := ⟨("from_least", none), "from_least", "from_least", defArgs (top 31), defBody (top 31), defScope (top 31), [], []⟩
theorem dv_from_least (W : Params) : He.fnW (KL W) dd_from_least.at_ = dd_from_least.val := by kernel_rfl
theorem dk_from_least (W : Params) : dd_from_least.ok (KL W) = true := by kernel_rfl
def dd_rings_of : He.DefD := ⟨("rings_of", none), "rings_of", "rings_of", defArgs (top 32), defBody (top 32), defScope (top 32), [], []⟩
theorem dv_rings_of (W : Params) : He.fnW (KL W) dd_rings_of.at_ = dd_rings_of.val := by kernel_rfl
theorem dk_rings_of (W : Params) : dd_rings_of.ok (KL W) = true := by kernel_rfl
def dd_check_station : He.DefD := ⟨("check_station", none), "check_station", "check_station", defArgs (top 35), defBody (top 35), defScope (top 35), [], []⟩
theorem dv_check_station (W : Params) : He.fnW (KL W) dd_check_station.at_ = dd_check_station.val := by kernel_rfl
theorem dk_check_station (W : Params) : dd_check_station.ok (KL W) = true := by kernel_rfl
def dd_check_count : He.DefD := ⟨("check_count", none), "check_count", "check_count", defArgs (top 36), defBody (top 36), defScope (top 36), [], []⟩
theorem dv_check_count (W : Params) : He.fnW (KL W) dd_check_count.at_ = dd_check_count.val := by kernel_rfl
theorem dk_check_count (W : Params) : dd_check_count.ok (KL W) = true := by kernel_rfl
def dd_check_pile : He.DefD := ⟨("check_pile", none), "check_pile", "check_pile", defArgs (top 37), defBody (top 37), defScope (top 37), [], []⟩
theorem dv_check_pile (W : Params) : He.fnW (KL W) dd_check_pile.at_ = dd_check_pile.val := by kernel_rfl
theorem dk_check_pile (W : Params) : dd_check_pile.ok (KL W) = true := by kernel_rfl
def dd_check_total : He.DefD := ⟨("check_total", none), "check_total", "check_total", defArgs (top 38), defBody (top 38), defScope (top 38), [], []⟩
theorem dv_check_total (W : Params) : He.fnW (KL W) dd_check_total.at_ = dd_check_total.val := by kernel_rfl
theorem dk_check_total (W : Params) : dd_check_total.ok (KL W) = true := by kernel_rfl
def dd_check_piles : He.DefD := ⟨("check_piles", none), "check_piles", "check_piles", defArgs (top 39), defBody (top 39), defScope (top 39), [], []⟩
theorem dv_check_piles (W : Params) : He.fnW (KL W) dd_check_piles.at_ = dd_check_piles.val := by kernel_rfl
theorem dk_check_piles (W : Params) : dd_check_piles.ok (KL W) = true := by kernel_rfl
def dd_check_starts : He.DefD := ⟨("check_starts", none), "check_starts", "check_starts", defArgs (top 40), defBody (top 40), defScope (top 40), [], []⟩
theorem dv_check_starts (W : Params) : He.fnW (KL W) dd_check_starts.at_ = dd_check_starts.val := by kernel_rfl
theorem dk_check_starts (W : Params) : dd_check_starts.ok (KL W) = true := by kernel_rfl
def dd_tally_of : He.DefD := ⟨("tally_of", none), "tally_of", "tally_of", defArgs (top 41), defBody (top 41), defScope (top 41), [], []⟩
theorem dv_tally_of (W : Params) : He.fnW (KL W) dd_tally_of.at_ = dd_tally_of.val := by kernel_rfl
theorem dk_tally_of (W : Params) : dd_tally_of.ok (KL W) = true := by kernel_rfl
def dd_make_deal : He.DefD := ⟨("make_deal", none), "make_deal", "make_deal", defArgs (top 42), defBody (top 42), defScope (top 42), [.adr (He.dflAt ("make_deal", none) 0)], []⟩
theorem dv_make_deal (W : Params) : He.fnW (KL W) dd_make_deal.at_ = dd_make_deal.val := by kernel_rfl
theorem dk_make_deal (W : Params) : dd_make_deal.ok (KL W) = true := by kernel_rfl
def dd_sizes_of : He.DefD := ⟨("sizes_of", none), "sizes_of", "sizes_of", defArgs (top 43), defBody (top 43), defScope (top 43), [], []⟩
theorem dv_sizes_of (W : Params) : He.fnW (KL W) dd_sizes_of.at_ = dd_sizes_of.val := by kernel_rfl
theorem dk_sizes_of (W : Params) : dd_sizes_of.ok (KL W) = true := by kernel_rfl
def dd_pack_of : He.DefD := ⟨("pack_of", none), "pack_of", "pack_of", defArgs (top 44), defBody (top 44), defScope (top 44), [], []⟩
theorem dv_pack_of (W : Params) : He.fnW (KL W) dd_pack_of.at_ = dd_pack_of.val := by kernel_rfl
theorem dk_pack_of (W : Params) : dd_pack_of.ok (KL W) = true := by kernel_rfl
def dd_bottoms : He.DefD := ⟨("bottoms", none), "bottoms", "bottoms", defArgs (top 46), defBody (top 46), defScope (top 46), [], []⟩
theorem dv_bottoms (W : Params) : He.fnW (KL W) dd_bottoms.at_ = dd_bottoms.val := by kernel_rfl
theorem dk_bottoms (W : Params) : dd_bottoms.ok (KL W) = true := by kernel_rfl
def dd_last_slips : He.DefD := ⟨("last_slips", none), "last_slips", "last_slips", defArgs (top 47), defBody (top 47), defScope (top 47), [], []⟩
theorem dv_last_slips (W : Params) : He.fnW (KL W) dd_last_slips.at_ = dd_last_slips.val := by kernel_rfl
theorem dk_last_slips (W : Params) : dd_last_slips.ok (KL W) = true := by kernel_rfl
end K80
-- TF1
set_option maxHeartbeats 0
namespace K80
open PySem PySem.Spec PyProof.Rows L2 VL
def dd_take_step : He.DefD := ⟨("take_step", none), "take_step", "take_step", defArgs (top 49), defBody (top 49), defScope (top 49), [], []⟩
theorem dv_take_step (W : Params) : He.fnW (KL W) dd_take_step.at_ = dd_take_step.val := by kernel_rfl
theorem dk_take_step (W : Params) : dd_take_step.ok (KL W) = true := by kernel_rfl
def dd_run : He.DefD := ⟨("run", none), "run", "run", defArgs (top 50), defBody (top 50), defScope (top 50), [], [("steps", .non)]⟩
theorem dv_run (W : Params) : He.fnW (KL W) dd_run.at_ = dd_run.val := by kernel_rfl
theorem dk_run (W : Params) : dd_run.ok (KL W) = true := by kernel_rfl
def dd_comes_out : He.DefD := ⟨("comes_out", none), "comes_out", "comes_out", defArgs (top 51), defBody (top 51), defScope (top 51), [], []⟩
theorem dv_comes_out (W : Params) : He.fnW (KL W) dd_comes_out.at_ = dd_comes_out.val := by kernel_rfl
theorem dk_comes_out (W : Params) : dd_comes_out.ok (KL W) = true := by kernel_rfl
def dd_lacks : He.DefD := ⟨("lacks", none), "lacks", "lacks", defArgs (top 53), defBody (top 53), defScope (top 53), [], []⟩
theorem dv_lacks (W : Params) : He.fnW (KL W) dd_lacks.at_ = dd_lacks.val := by kernel_rfl
theorem dk_lacks (W : Params) : dd_lacks.ok (KL W) = true := by kernel_rfl
def dd_lacking_rings : He.DefD := ⟨("lacking_rings", none), "lacking_rings", "lacking_rings", defArgs (top 54), defBody (top 54), defScope (top 54), [], []⟩
theorem dv_lacking_rings (W : Params) : He.fnW (KL W) dd_lacking_rings.at_ = dd_lacking_rings.val := by kernel_rfl
theorem dk_lacking_rings (W : Params) : dd_lacking_rings.ok (KL W) = true := by kernel_rfl
def dd_fewest_starts : He.DefD := ⟨("fewest_starts", none), "fewest_starts", "fewest_starts", defArgs (top 55), defBody (top 55), defScope (top 55), [], []⟩
theorem dv_fewest_starts (W : Params) : He.fnW (KL W) dd_fewest_starts.at_ = dd_fewest_starts.val := by kernel_rfl
theorem dk_fewest_starts (W : Params) : dd_fewest_starts.ok (KL W) = true := by kernel_rfl
def dd_best_starts : He.DefD := ⟨("best_starts", none), "best_starts", "best_starts", defArgs (top 56), defBody (top 56), defScope (top 56), [], []⟩
theorem dv_best_starts (W : Params) : He.fnW (KL W) dd_best_starts.at_ = dd_best_starts.val := by kernel_rfl
theorem dk_best_starts (W : Params) : dd_best_starts.ok (KL W) = true := by kernel_rfl
def dd_judge_starts : He.DefD := ⟨("judge_starts", none), "judge_starts", "judge_starts", defArgs (top 57), defBody (top 57), defScope (top 57), [], []⟩
theorem dv_judge_starts (W : Params) : He.fnW (KL W) dd_judge_starts.at_ = dd_judge_starts.val := by kernel_rfl
theorem dk_judge_starts (W : Params) : dd_judge_starts.ok (KL W) = true := by kernel_rfl
def dd_law_mix : He.DefD := ⟨("_law_mix", none), "_law_mix", "_law_mix", defArgs (top 59), defBody (top 59), defScope (top 59), [], []⟩
theorem dv_law_mix (W : Params) : He.fnW (KL W) dd_law_mix.at_ = dd_law_mix.val := by kernel_rfl
theorem dk_law_mix (W : Params) : dd_law_mix.ok (KL W) = true := by kernel_rfl
def dd_law_store : He.DefD := ⟨("_law_store", none), "_law_store", "_law_store", defArgs (top 60), defBody (top 60), defScope (top 60), [], []⟩
theorem dv_law_store (W : Params) : He.fnW (KL W) dd_law_store.at_ = dd_law_store.val := by kernel_rfl
theorem dk_law_store (W : Params) : dd_law_store.ok (KL W) = true := by kernel_rfl
def dd_law_take : He.DefD := ⟨("_law_take", none), "_law_take", "_law_take", defArgs (top 61), defBody (top 61), defScope (top 61), [], []⟩
theorem dv_law_take (W : Params) : He.fnW (KL W) dd_law_take.at_ = dd_law_take.val := by kernel_rfl
theorem dk_law_take (W : Params) : dd_law_take.ok (KL W) = true := by kernel_rfl
def dd_law_shuffled : He.DefD := ⟨("_law_shuffled", none), "_law_shuffled", "_law_shuffled", defArgs (top 62), defBody (top 62), defScope (top 62), [], []⟩
theorem dv_law_shuffled (W : Params) : He.fnW (KL W) dd_law_shuffled.at_ = dd_law_shuffled.val := by kernel_rfl
theorem dk_law_shuffled (W : Params) : dd_law_shuffled.ok (KL W) = true := by kernel_rfl
def dd_law_end_counts : He.DefD := ⟨("_law_end_counts", none), "_law_end_counts", "_law_end_counts", defArgs (top 63), defBody (top 63), defScope (top 63), [], []⟩
theorem dv_law_end_counts (W : Params) : He.fnW (KL W) dd_law_end_counts.at_ = dd_law_end_counts.val := by kernel_rfl
theorem dk_law_end_counts (W : Params) : dd_law_end_counts.ok (KL W) = true := by kernel_rfl
def dd_law_other_row : He.DefD := ⟨("_law_other_row", none), "_law_other_row", "_law_other_row", defArgs (top 64), defBody (top 64), defScope (top 64), [], []⟩
theorem dv_law_other_row (W : Params) : He.fnW (KL W) dd_law_other_row.at_ = dd_law_other_row.val := by kernel_rfl
theorem dk_law_other_row (W : Params) : dd_law_other_row.ok (KL W) = true := by kernel_rfl
def dd_law_same : He.DefD := ⟨("_law_same", none), "_law_same", "_law_same", defArgs (top 65), defBody (top 65), defScope (top 65), [], []⟩
theorem dv_law_same (W : Params) : He.fnW (KL W) dd_law_same.at_ = dd_law_same.val := by kernel_rfl
theorem dk_law_same (W : Params) : dd_law_same.ok (KL W) = true := by kernel_rfl
def dd_law_same_leaf : He.DefD := ⟨("_law_same_leaf", none), "_law_same_leaf", "_law_same_leaf", defArgs (top 66), defBody (top 66), defScope (top 66), [], []⟩
theorem dv_law_same_leaf (W : Params) : He.fnW (KL W) dd_law_same_leaf.at_ = dd_law_same_leaf.val := by kernel_rfl
theorem dk_law_same_leaf (W : Params) : dd_law_same_leaf.ok (KL W) = true := by kernel_rfl
end K80
-- TF2
set_option maxHeartbeats 0
namespace K80
open PySem PySem.Spec PyProof.Rows L2 VL
def dd_law_pack_of : He.DefD := ⟨("_law_pack_of", none), "_law_pack_of", "_law_pack_of", defArgs (top 67), defBody (top 67), defScope (top 67), [], []⟩
theorem dv_law_pack_of (W : Params) : He.fnW (KL W) dd_law_pack_of.at_ = dd_law_pack_of.val := by kernel_rfl
theorem dk_law_pack_of (W : Params) : dd_law_pack_of.ok (KL W) = true := by kernel_rfl
def dd_law_run : He.DefD := ⟨("_law_run", none), "_law_run", "_law_run", defArgs (top 68), defBody (top 68), defScope (top 68), [], []⟩
theorem dv_law_run (W : Params) : He.fnW (KL W) dd_law_run.at_ = dd_law_run.val := by kernel_rfl
theorem dk_law_run (W : Params) : dd_law_run.ok (KL W) = true := by kernel_rfl
def dd_law_aim_row : He.DefD := ⟨("_law_aim_row", none), "_law_aim_row", "_law_aim_row", defArgs (top 69), defBody (top 69), defScope (top 69), [], []⟩
theorem dv_law_aim_row (W : Params) : He.fnW (KL W) dd_law_aim_row.at_ = dd_law_aim_row.val := by kernel_rfl
theorem dk_law_aim_row (W : Params) : dd_law_aim_row.ok (KL W) = true := by kernel_rfl
def dd_law_ring_rows : He.DefD := ⟨("_law_ring_rows", none), "_law_ring_rows", "_law_ring_rows", defArgs (top 70), defBody (top 70), defScope (top 70), [], []⟩
theorem dv_law_ring_rows (W : Params) : He.fnW (KL W) dd_law_ring_rows.at_ = dd_law_ring_rows.val := by kernel_rfl
theorem dk_law_ring_rows (W : Params) : dd_law_ring_rows.ok (KL W) = true := by kernel_rfl
def dd_law_seats : He.DefD := ⟨("_law_seats", none), "_law_seats", "_law_seats", defArgs (top 71), defBody (top 71), defScope (top 71), [], []⟩
theorem dv_law_seats (W : Params) : He.fnW (KL W) dd_law_seats.at_ = dd_law_seats.val := by kernel_rfl
theorem dk_law_seats (W : Params) : dd_law_seats.ok (KL W) = true := by kernel_rfl
def dd_law_class_of : He.DefD := ⟨("_law_class_of", none), "_law_class_of", "_law_class_of", defArgs (top 72), defBody (top 72), defScope (top 72), [], []⟩
theorem dv_law_class_of (W : Params) : He.fnW (KL W) dd_law_class_of.at_ = dd_law_class_of.val := by kernel_rfl
theorem dk_law_class_of (W : Params) : dd_law_class_of.ok (KL W) = true := by kernel_rfl
def dd_law_refusal_of : He.DefD := ⟨("_law_refusal_of", none), "_law_refusal_of", "_law_refusal_of", defArgs (top 73), defBody (top 73), defScope (top 73), [], []⟩
theorem dv_law_refusal_of (W : Params) : He.fnW (KL W) dd_law_refusal_of.at_ = dd_law_refusal_of.val := by kernel_rfl
theorem dk_law_refusal_of (W : Params) : dd_law_refusal_of.ok (KL W) = true := by kernel_rfl
def dd_law_ask : He.DefD := ⟨("_law_ask", none), "_law_ask", "_law_ask", defArgs (top 74), defBody (top 74), defScope (top 74), [], []⟩
theorem dv_law_ask (W : Params) : He.fnW (KL W) dd_law_ask.at_ = dd_law_ask.val := by kernel_rfl
theorem dk_law_ask (W : Params) : dd_law_ask.ok (KL W) = true := by kernel_rfl
def dd_law_told : He.DefD := ⟨("_law_told", none), "_law_told", "_law_told", defArgs (top 75), defBody (top 75), defScope (top 75), [], []⟩
theorem dv_law_told (W : Params) : He.fnW (KL W) dd_law_told.at_ = dd_law_told.val := by kernel_rfl
theorem dk_law_told (W : Params) : dd_law_told.ok (KL W) = true := by kernel_rfl
def dd_law_takes_all : He.DefD := ⟨("_law_takes_all", none), "_law_takes_all", "_law_takes_all", defArgs (top 76), defBody (top 76), defScope (top 76), [], []⟩
theorem dv_law_takes_all (W : Params) : He.fnW (KL W) dd_law_takes_all.at_ = dd_law_takes_all.val := by kernel_rfl
theorem dk_law_takes_all (W : Params) : dd_law_takes_all.ok (KL W) = true := by kernel_rfl
def dd_law_least : He.DefD := ⟨("_law_least", none), "_law_least", "_law_least", defArgs (top 77), defBody (top 77), defScope (top 77), [], []⟩
theorem dv_law_least (W : Params) : He.fnW (KL W) dd_law_least.at_ = dd_law_least.val := by kernel_rfl
theorem dk_law_least (W : Params) : dd_law_least.ok (KL W) = true := by kernel_rfl
def dd_law_rule : He.DefD := ⟨("_law_rule", none), "_law_rule", "_law_rule", defArgs (top 78), defBody (top 78), defScope (top 78), [], []⟩
theorem dv_law_rule (W : Params) : He.fnW (KL W) dd_law_rule.at_ = dd_law_rule.val := by kernel_rfl
theorem dk_law_rule (W : Params) : dd_law_rule.ok (KL W) = true := by kernel_rfl
def dd_law_judged : He.DefD := ⟨("_law_judged", none), "_law_judged", "_law_judged", defArgs (top 79), defBody (top 79), defScope (top 79), [], []⟩
theorem dv_law_judged (W : Params) : He.fnW (KL W) dd_law_judged.at_ = dd_law_judged.val := by kernel_rfl
theorem dk_law_judged (W : Params) : dd_law_judged.ok (KL W) = true := by kernel_rfl
def dd_law_rows_of_starts : He.DefD := ⟨("_law_rows_of_starts", none), "_law_rows_of_starts", "_law_rows_of_starts", defArgs (top 80), defBody (top 80), defScope (top 80), [], []⟩
theorem dv_law_rows_of_starts (W : Params) : He.fnW (KL W) dd_law_rows_of_starts.at_ = dd_law_rows_of_starts.val := by kernel_rfl
theorem dk_law_rows_of_starts (W : Params) : dd_law_rows_of_starts.ok (KL W) = true := by kernel_rfl
def dd_law_odd : He.DefD := ⟨("_law_odd", none), "_law_odd", "_law_odd", defArgs (top 81), defBody (top 81), defScope (top 81), [], []⟩
theorem dv_law_odd (W : Params) : He.fnW (KL W) dd_law_odd.at_ = dd_law_odd.val := by kernel_rfl
theorem dk_law_odd (W : Params) : dd_law_odd.ok (KL W) = true := by kernel_rfl
def dd_law_odd_piles : He.DefD := ⟨("_law_odd_piles", none), "_law_odd_piles", "_law_odd_piles", defArgs (top 82), defBody (top 82), defScope (top 82), [], []⟩
theorem dv_law_odd_piles (W : Params) : He.fnW (KL W) dd_law_odd_piles.at_ = dd_law_odd_piles.val := by kernel_rfl
theorem dk_law_odd_piles (W : Params) : dd_law_odd_piles.ok (KL W) = true := by kernel_rfl
end K80
-- TF3
set_option maxHeartbeats 0
namespace K80
open PySem PySem.Spec PyProof.Rows L2 VL
def dd_law_trouble : He.DefD := ⟨("_law_trouble", none), "_law_trouble", "_law_trouble", defArgs (top 83), defBody (top 83), defScope (top 83), [], []⟩
theorem dv_law_trouble (W : Params) : He.fnW (KL W) dd_law_trouble.at_ = dd_law_trouble.val := by kernel_rfl
theorem dk_law_trouble (W : Params) : dd_law_trouble.ok (KL W) = true := by kernel_rfl
def dd_law : He.DefD := ⟨("law", none), "law", "law", defArgs (top 84), defBody (top 84), defScope (top 84), [], []⟩
theorem dv_law (W : Params) : He.fnW (KL W) dd_law.at_ = dd_law.val := by kernel_rfl
theorem dk_law (W : Params) : dd_law.ok (KL W) = true := by kernel_rfl
def dd_BadStation_init : He.DefD := ⟨("BadStation", some "__init__"), "__init__", "BadStation.__init__", defArgs ((cBody (top 5)).getD 0 (.Pass ⟨0, 0, 0, 0⟩)), defBody ((cBody (top 5)).getD 0 (.Pass ⟨0, 0, 0, 0⟩)), defScope ((cBody (top 5)).getD 0 (.Pass ⟨0, 0, 0, 0⟩)), [], []⟩
theorem dv_BadStation_init (W : Params) : He.fnW (KL W) dd_BadStation_init.at_ = dd_BadStation_init.val := by kernel_rfl
theorem dk_BadStation_init (W : Params) : dd_BadStation_init.ok (KL W) = true := by kernel_rfl
def dd_BadPlace_init : He.DefD := ⟨("BadPlace", some "__init__"), "__init__", "BadPlace.__init__", defArgs ((cBody (top 6)).getD 0 (.Pass ⟨0, 0, 0, 0⟩)), defBody ((cBody (top 6)).getD 0 (.Pass ⟨0, 0, 0, 0⟩)), defScope ((cBody (top 6)).getD 0 (.Pass ⟨0, 0, 0, 0⟩)), [], []⟩
theorem dv_BadPlace_init (W : Params) : He.fnW (KL W) dd_BadPlace_init.at_ = dd_BadPlace_init.val := by kernel_rfl
theorem dk_BadPlace_init (W : Params) : dd_BadPlace_init.ok (KL W) = true := by kernel_rfl
def dd_BadNumber_init : He.DefD := ⟨("BadNumber", some "__init__"), "__init__", "BadNumber.__init__", defArgs ((cBody (top 7)).getD 0 (.Pass ⟨0, 0, 0, 0⟩)), defBody ((cBody (top 7)).getD 0 (.Pass ⟨0, 0, 0, 0⟩)), defScope ((cBody (top 7)).getD 0 (.Pass ⟨0, 0, 0, 0⟩)), [], []⟩
theorem dv_BadNumber_init (W : Params) : He.fnW (KL W) dd_BadNumber_init.at_ = dd_BadNumber_init.val := by kernel_rfl
theorem dk_BadNumber_init (W : Params) : dd_BadNumber_init.ok (KL W) = true := by kernel_rfl
def dd_TooMany_init : He.DefD := ⟨("TooMany", some "__init__"), "__init__", "TooMany.__init__", defArgs ((cBody (top 8)).getD 0 (.Pass ⟨0, 0, 0, 0⟩)), defBody ((cBody (top 8)).getD 0 (.Pass ⟨0, 0, 0, 0⟩)), defScope ((cBody (top 8)).getD 0 (.Pass ⟨0, 0, 0, 0⟩)), [], []⟩
theorem dv_TooMany_init (W : Params) : He.fnW (KL W) dd_TooMany_init.at_ = dd_TooMany_init.val := by kernel_rfl
theorem dk_TooMany_init (W : Params) : dd_TooMany_init.ok (KL W) = true := by kernel_rfl
def dd_Empty_init : He.DefD := ⟨("Empty", some "__init__"), "__init__", "Empty.__init__", defArgs ((cBody (top 9)).getD 0 (.Pass ⟨0, 0, 0, 0⟩)), defBody ((cBody (top 9)).getD 0 (.Pass ⟨0, 0, 0, 0⟩)), defScope ((cBody (top 9)).getD 0 (.Pass ⟨0, 0, 0, 0⟩)), [], []⟩
theorem dv_Empty_init (W : Params) : He.fnW (KL W) dd_Empty_init.at_ = dd_Empty_init.val := by kernel_rfl
theorem dk_Empty_init (W : Params) : dd_Empty_init.ok (KL W) = true := by kernel_rfl
def dd_Unframed_init : He.DefD := ⟨("Unframed", some "__init__"), "__init__", "Unframed.__init__", defArgs ((cBody (top 10)).getD 0 (.Pass ⟨0, 0, 0, 0⟩)), defBody ((cBody (top 10)).getD 0 (.Pass ⟨0, 0, 0, 0⟩)), defScope ((cBody (top 10)).getD 0 (.Pass ⟨0, 0, 0, 0⟩)), [], []⟩
theorem dv_Unframed_init (W : Params) : He.fnW (KL W) dd_Unframed_init.at_ = dd_Unframed_init.val := by kernel_rfl
theorem dk_Unframed_init (W : Params) : dd_Unframed_init.ok (KL W) = true := by kernel_rfl
def dd_NotPack_init : He.DefD := ⟨("NotPack", some "__init__"), "__init__", "NotPack.__init__", defArgs ((cBody (top 11)).getD 0 (.Pass ⟨0, 0, 0, 0⟩)), defBody ((cBody (top 11)).getD 0 (.Pass ⟨0, 0, 0, 0⟩)), defScope ((cBody (top 11)).getD 0 (.Pass ⟨0, 0, 0, 0⟩)), [], []⟩
theorem dv_NotPack_init (W : Params) : He.fnW (KL W) dd_NotPack_init.at_ = dd_NotPack_init.val := by kernel_rfl
theorem dk_NotPack_init (W : Params) : dd_NotPack_init.ok (KL W) = true := by kernel_rfl
def dd_Deal_init : He.DefD := ⟨("Deal", some "__init__"), "__init__", "Deal.__init__", defArgs ((cBody (top 34)).getD 4 (.Pass ⟨0, 0, 0, 0⟩)), defBody ((cBody (top 34)).getD 4 (.Pass ⟨0, 0, 0, 0⟩)), defScope ((cBody (top 34)).getD 4 (.Pass ⟨0, 0, 0, 0⟩)), [], []⟩
theorem dv_Deal_init (W : Params) : He.fnW (KL W) dd_Deal_init.at_ = dd_Deal_init.val := by kernel_rfl
theorem dk_Deal_init (W : Params) : dd_Deal_init.ok (KL W) = true := by kernel_rfl
end K80
-- W_law_mix
set_option maxHeartbeats 4000000
namespace K80
open PySem PySem.Spec L2 VL
theorem sc_law_mix : FnScope ["base", "turn", "place", "prime", "one", "two", "three"] ["base", "turn", "place"] (defScope (top 59)) := ⟨rfl, rfl, rfl, by decide +kernel, rfl, by decide +kernel, by decide +kernel⟩
def C_law_mix (K : Fr) : Ctr := fun os Q E => ∃ base turn place : Int, os = [.st (.int base), .st (.int turn), .st (.int place)] ∧ base.natAbs < 2 ^ 12000 ∧ turn.natAbs < 2 ^ 12000 ∧ place.natAbs < 2 ^ 12000 ∧ ∀ r : Int, 0 ≤ r → r < 2 ^ 58 → Q (.st (.int r)) os
section
variable {P : Program} {w : World} {K : Fr} {mg : Str → Option Value} {base : Heap}
theorem ok_law_mix (T : Tx P w K mg base) : Ok P w K mg base "_law_mix" ["base", "turn", "place"] 3 (C_law_mix K) := by
  have sc : FnScope ["base", "turn", "place", "prime", "one", "two", "three"] ["base", "turn", "place"] (defScope (top 59)) := sc_law_mix
  refine ok_of [] T.d_law_mix sc (fun fd F => F.bindsN fun _ _ _ _ _ _ us hl => match us, hl with | [_, _, _], _ => rfl) (fun os Q E h => ?_) (fun cdv A outer s H G s0 E os Q1 E1 hr hc wx => ⟨_, _, (b_cons (s_set (i := 3) (by show 3 ∉ ([] : List Nat); decide) sc.nd rfl (by first | exact Or.inl rfl | exact Or.inr rfl) v_int)
  (b_cons (s_set (i := 4) (by show 4 ∉ ([] : List Nat); decide) sc.nd rfl (by first | exact Or.inl rfl | exact Or.inr rfl) (v_addA (v_addA (v_addA (v_mulA (vv 0) v_int) (v_mulA (vv 1) v_int)) (v_mulA (vv 2) v_int)) v_int))
  (b_cons (s_set (i := 4) (by show 4 ∉ ([] : List Nat); decide) sc.nd rfl (by first | exact Or.inl rfl | exact Or.inr rfl) (v_mod (v_int1 rfl T.b_int (a_cons (vv 4) a_nil)) (vv 3)))
  (b_cons (s_set (i := 5) (by show 5 ∉ ([] : List Nat); decide) sc.nd rfl (by first | exact Or.inl rfl | exact Or.inr rfl) (v_mod (v_int1 rfl T.b_int (a_cons (v_addA (v_addA (v_mulA (v_div (vv 4) v_int) v_int) (v_mulA (vv 4) v_int)) (vv 1)) a_nil)) (vv 3)))
  (b_cons (s_set (i := 6) (by show 6 ∉ ([] : List Nat); decide) sc.nd rfl (by first | exact Or.inl rfl | exact Or.inr rfl) (v_mod (v_int1 rfl T.b_int (a_cons (v_addA (v_addA (v_mulA (vv 5) (vv 5)) (v_mulA (v_div (vv 4) v_int) v_int)) (vv 2)) a_nil)) (vv 3)))
  (b_one (s_ret (v_div (vv 6) v_int)))))))), ?_⟩)
  · obtain ⟨base, turn, place, rfl, _⟩ := h; rfl
  · obtain ⟨base, turn, place, rfl, hb, ht, hp, hq⟩ := hc
    simp!
    refine ⟨cmulB 12000 63 hb (by decide), cmulB 12000 63 ht (by decide), cmulB 12000 63 hp (by decide), by decide, ?_⟩
    obtain ⟨a0, a1⟩ := emodB (base * 6364136223846793005 + turn * 1442695040888963407 + place * 2862933555777941757 + 3037000493) (p := 2305843009213693951) (by decide)
    generalize (base * 6364136223846793005 + turn * 1442695040888963407 + place * 2862933555777941757 + 3037000493) % 2305843009213693951 = one at a0 a1 ⊢
    obtain ⟨b0, b1⟩ := edivB (p := 65537) a0 (by decide)
    refine ⟨cdivB 17 (by decide) (by decide), cmulB 62 63 (natAbs_lt b0 (by omega)) (by decide), cmulB 62 63 (natAbs_lt a0 (by omega)) (by decide), by decide, ?_⟩
    obtain ⟨c0, c1⟩ := emodB (one / 65537 * 2685821657736338717 + one * 1181783497276652981 + turn) (p := 2305843009213693951) (by decide)
    generalize (one / 65537 * 2685821657736338717 + one * 1181783497276652981 + turn) % 2305843009213693951 = two at c0 c1 ⊢
    obtain ⟨d0, d1⟩ := edivB (p := 4294967296) a0 (by decide)
    refine ⟨cmulB 62 62 (natAbs_lt c0 (by omega)) (natAbs_lt c0 (by omega)), cdivB 33 (by decide) (by decide), cmulB 62 63 (natAbs_lt d0 (by omega)) (by decide), by decide, ?_⟩
    obtain ⟨e0, e1⟩ := emodB (two * two + one / 4294967296 * 3935559000370003845 + place) (p := 2305843009213693951) (by decide)
    generalize (two * two + one / 4294967296 * 3935559000370003845 + place) % 2305843009213693951 = three at e0 e1 ⊢
    refine ⟨cdivB 4 (by decide) (by decide), ?_⟩
    exact hq _ (by omega) (by omega)
end
end K80
-- W_law_store
set_option maxHeartbeats 4000000
namespace K80
open PySem PySem.Spec L2 VL
theorem sc_law_store : FnScope ["script", "limit", "k", "cells", "seed", "cell", "size", "great", "code"] ["script"] (defScope (top 60)) := ⟨rfl, rfl, rfl, by decide +kernel, rfl, by decide +kernel, by decide +kernel⟩
def C_law_store (K : Fr) : Ctr := fun os Q E => ∃ ns : List Int, os = [.st (.scr ns)] ∧ ns.length ≤ 63 ∧ ∀ st, StoreOk 0 st → Q (.lst st) os
section
variable {P : Program} {w : World} {K : Fr} {mg : Str → Option Value} {base : Heap}
theorem ok_law_store (T : Tx P w K mg base) : Ok P w K mg base "_law_store" ["script"] 4 (C_law_store K) := by
  have o_law_mix := ok_law_mix (P := P) (w := w) (base := base) T
  have sc : FnScope ["script", "limit", "k", "cells", "seed", "cell", "size", "great", "code"] ["script"] (defScope (top 60)) := sc_law_store
  refine ok_of [] T.d_law_store sc (fun fd F => F.bindsN fun _ _ _ _ _ _ us hl => match us, hl with | [_], _ => rfl) (fun os Q E h => ?_) (fun cdv A outer s H G s0 E os Q1 E1 hr hc wx => ⟨_, _, (b_cons (s_set (i := 1) (by show 1 ∉ ([] : List Nat); decide) sc.nd rfl (by first | exact Or.inl rfl | exact Or.inr rfl) (v_pow v_int v_int))
  (b_cons (s_for wx.po wx.calm (i_rng1 rfl T.b_range (a_cons v_int a_nil)) (g_name (i := 2) (by show 2 ∉ ([] : List Nat); decide) sc.nd rfl (by first | exact Or.inl rfl | exact Or.inr rfl)) (b_one (s_set (i := 1) (by show 1 ∉ ([] : List Nat); decide) sc.nd rfl (by first | exact Or.inl rfl | exact Or.inr rfl) (v_mulA (vv 1) (vv 1)))))
  (b_cons (s_set (i := 3) (by show 3 ∉ ([] : List Nat); decide) sc.nd rfl (by first | exact Or.inl rfl | exact Or.inr rfl) (v_lst a_nil))
  (b_cons (s_set (i := 4) (by show 4 ∉ ([] : List Nat); decide) sc.nd rfl (by first | exact Or.inl rfl | exact Or.inr rfl) v_int)
  (b_cons (s_for wx.po wx.calm (i_seq (v_sl (vv 0) o_none (o_some v_int))) (g_name (i := 5) (by show 5 ∉ ([] : List Nat); decide) sc.nd rfl (by first | exact Or.inl rfl | exact Or.inr rfl)) (b_cons (s_set (i := 6) (by show 6 ∉ ([] : List Nat); decide) sc.nd rfl (by first | exact Or.inl rfl | exact Or.inr rfl) (v_abs rfl T.b_abs (a_cons (v_int1 rfl T.b_int (a_cons (vv 5) a_nil)) a_nil)))
  (b_cons (s_set (i := 7) (by show 7 ∉ ([] : List Nat); decide) sc.nd rfl (by first | exact Or.inl rfl | exact Or.inr rfl) (v_int1 rfl T.b_int (a_cons (v_ge (vv 6) (v_pow v_int v_int)) a_nil)))
  (b_cons (s_set (i := 6) (by show 6 ∉ ([] : List Nat); decide) sc.nd rfl (by first | exact Or.inl rfl | exact Or.inr rfl) (v_mod (v_int1 rfl T.b_int (a_cons (vv 6) a_nil)) (vv 1)))
  (b_cons (s_set (i := 8) (by show 8 ∉ ([] : List Nat); decide) sc.nd rfl (by first | exact Or.inl rfl | exact Or.inr rfl) (v_addA (v_mulA v_int (vv 6)) (v_int1 rfl T.b_int (a_cons (v_lt (vv 5) v_int) a_nil))))
  (b_cons (s_set (i := 4) (by show 4 ∉ ([] : List Nat); decide) sc.nd rfl (by first | exact Or.inl rfl | exact Or.inr rfl) (v_callO wx o_law_mix (hr.mono (by decide)) rfl (a_cons (vv 4) (a_cons (v_mod (v_int1 rfl T.b_int (a_cons (vv 8) a_nil)) v_int) (a_cons (v_addA (v_len rfl T.b_len (a_cons (vv 3) a_nil)) v_int) a_nil)))))
  (b_one (s_if (t_eq hr.units (vv 7) v_int) (b_one (s_app (vv 3) (v_tup (a_cons v_int (a_cons (vv 6) a_nil))))) (b_one (s_app (vv 3) (v_tup (a_cons v_int (a_cons (vv 8) a_nil)))))))))))))
  (b_one (s_ret (v_lst (a_cons (v_frz 3 (vv 3)) (a_cons v_int (a_cons v_int (a_cons v_int (a_cons v_int (a_cons (vv 4) a_nil)))))))))))))), ?_⟩)
  · obtain ⟨ns, rfl, _⟩ := h; rfl
  · obtain ⟨ns, rfl, hn, hq⟩ := hc
    simp!
    refine ⟨⟨by decide, by decide, by decide⟩, ?_⟩
    refine r_for (e1 := [some (.st (.scr ns)), some (.st (.int (lim 0))), none, none, none, none, none, none, none]) (fun m e => ∃ x, e = [some (.st (.scr ns)), some (.st (.int (lim m))), x, none, none, none, none, none, none]) 4 _ (fun Q q => by
      simp!
      exact ⟨⟨by decide, by decide⟩, q⟩) ⟨none, rfl⟩ (fun m e hm ⟨x, he⟩ => ?_) fun e ⟨x, he⟩ => ?_
    · subst he
      simp!
      exact ⟨lim_mul m hm, _, rfl⟩
    · subst he
      simp!
      refine ⟨szOk (by omega), ?_⟩
      have hlen := cutD_len (ns.map VL.D.int) none (some 63)
      rw [List.length_map] at hlen
      refine r_for (e1 := [some (.st (.scr ns)), some (.st (.int (lim 4))), x, some (.lst []), some (.st (.int 11)), none, none, none, none]) (fun m e => ∃ (cells : List VL.D) (seed : Int) (x5 x6 x7 x8 : Option OD), e = [some (.st (.scr ns)), some (.st (.int (lim 4))), x, some (.lst (cells.map .st)), some (.st (.int seed)), x5, x6, x7, x8] ∧ cells.length = m ∧ (∀ c ∈ cells, CellOk c) ∧ 0 ≤ seed ∧ seed < 2 ^ 58)
        (cutD (ns.map VL.D.int) none (some 63)).length (fun i => (cutD (ns.map VL.D.int) none (some 63)).getD i .non) (fun Q q => by
        simp!
        exact q) ⟨[], 11, none, none, none, none, rfl, rfl, (fun c h => nomatch h), by decide, by decide⟩ (fun m e hm ⟨cells, seed, x5, x6, x7, x8, he, hl, hc, h0, h1⟩ => ?_) fun e ⟨cells, seed, x5, x6, x7, x8, he, hl, hc, h0, h1⟩ => ?_
      · subst he
        obtain ⟨d, hd⟩ := get_lt hm
        obtain ⟨y, _, hy⟩ := List.mem_map.mp (cutD_mem (List.mem_of_getElem? hd))
        rw [getD_of hd, ← hy]
        simp!
        refine ⟨⟨by decide, by decide, by decide⟩, lim4.1, ?_⟩
        obtain ⟨a0, a1⟩ := emodB (if y < 0 then -y else y) lim4.1
        generalize (if y < 0 then -y else y) % lim 4 = size at a0 a1 ⊢
        have a2 : size < 2 ^ 2690 := Int.lt_trans a1 lim4.2
        have a3 : size.natAbs < 2 ^ 2690 := natAbs_lt a0 a2
        refine ⟨cmulB 2 2690 (by decide) a3, by decide, ?_⟩
        have hb : (if decide (y < 0) = true then (1 : Int) else 0) = 0 ∨ (if decide (y < 0) = true then (1 : Int) else 0) = 1 := by split <;> simp
        generalize (if decide (y < 0) = true then (1 : Int) else 0) = bit at hb ⊢
        have c0 : 0 ≤ 2 * size + bit := by omega
        have c1 : (2 * size + bit).natAbs < 2 ^ 2700 := natAbs_lt c0 (by
          have e1 : (2 : Int) ^ 2700 = 2 ^ 2690 * 1024 := by rw [show (2700 : Nat) = 2690 + 10 from rfl, Int.pow_add]; rfl
          rw [e1]
          generalize (2 : Int) ^ 2690 = T at a2 ⊢
          omega)
        obtain ⟨d0, d1⟩ := emodB (2 * size + bit) (p := 2305843009213693951) (by decide)
        refine ⟨seed, _, _, rfl, natAbs_mono (natAbs_lt h0 h1) (by decide), natAbs_mono (natAbs_lt (b := 62) d0 (by omega)) (by decide), natAbs_mono (natAbs_lt (b := 62) (by omega) (by omega)) (by decide), fun r r0 r1 => ?_⟩
        simp_all!
        have hcl : cells.length < sizeLine := szLt (by omega)
        have fin : ∀ c, CellOk c → ∀ x ∈ cells ++ [c], CellOk x := fun c hcc x hx => by
          rcases List.mem_append.mp hx with h | h
          · exact hc x h
          · rw [List.mem_singleton.mp h]; exact hcc
        generalize (if decide ((10 : Int) ^ (18 : Int).toNat ≤ if y < 0 then -y else y) = true then (1 : Int) else 0) = great
        by_cases hg : great = 1
        · rw [decide_eq_true hg]
          simp!
          refine ⟨szOk (by omega), hcl, cells ++ [.tup [.int 1, .int size]], r, _, _, _, _, rfl, by simp [hl], fin _ ⟨1, size, rfl, a0, natAbs_mono a3 (by decide)⟩, r0, r1⟩
        · rw [decide_eq_false hg]
          simp!
          refine ⟨szOk (by omega), hcl, cells ++ [.tup [.int 0, .int (2 * size + bit)]], r, _, _, _, _, rfl, by simp [hl], fin _ ⟨0, _, rfl, c0, c1⟩, r0, r1⟩
      · subst he
        simp!
        refine ⟨szOk (by omega), hq _ ⟨cells, 0, 0, 0, 0, seed, rfl, by omega, hc, by decide, by omega, by decide, by decide, by decide, by decide, fun h => absurd h (by decide), by decide, by decide, h0, h1⟩⟩
end
end K80
-- W_law_take
set_option maxHeartbeats 4000000
namespace K80
open PySem PySem.Spec L2 VL
theorem sc_law_take : FnScope ["store", "many", "cell", "value", "base", "span", "part"] ["store", "many"] (defScope (top 61)) := ⟨rfl, rfl, rfl, by decide +kernel, rfl, by decide +kernel, by decide +kernel⟩
def C_law_take (K : Fr) : Ctr := fun os Q E => ∃ (t : Nat) (st : List OD) (many : Int), os = [.lst st, .st (.int many)] ∧ StoreOk t st ∧ t < 2 ^ 11000 ∧ many.natAbs < 2 ^ 200 ∧ ∀ (v : Int) (st' : List OD), 0 ≤ v → (v < many ∨ many < 2 ∧ v = 0) → StoreOk (t + 1) st' → Q (.st (.int v)) [.lst st', .st (.int many)]
section
variable {P : Program} {w : World} {K : Fr} {mg : Str → Option Value} {base : Heap}
theorem ok_law_take (T : Tx P w K mg base) : Ok P w K mg base "_law_take" ["store", "many"] 4 (C_law_take K) := by
  have o_law_mix := ok_law_mix (P := P) (w := w) (base := base) T
  have sc : FnScope ["store", "many", "cell", "value", "base", "span", "part"] ["store", "many"] (defScope (top 61)) := sc_law_take
  refine ok_of [0] T.d_law_take sc (fun fd F => F.bindsN fun _ _ _ _ _ _ us hl => match us, hl with | [_, _], _ => rfl) (fun os Q E h => ?_) (fun cdv A outer s H G s0 E os Q1 E1 hr hc wx => ⟨_, _, (b_cons (s_if (t_lt (vv 1) v_int) (b_one (s_ret v_int)) b_nil)
  (b_cons (s_setIx (vv 0) v_int (v_addA (v_ix (vv 0) v_int) v_int))
  (b_cons (s_if (t_w (w_and (t_lt (v_ix (vv 0) v_int) v_int) (w_and (t_lt (v_ix (vv 0) v_int) v_int) (w_and1 (t_lt (v_ix (vv 0) v_int) (v_len rfl T.b_len (a_cons (v_ix (vv 0) v_int) a_nil))))))) (b_cons (s_set (i := 2) (by show 2 ∉ ([0] : List Nat); decide) sc.nd rfl (by first | exact Or.inl rfl | exact Or.inr rfl) (v_ix (v_ix (vv 0) v_int) (v_ix (vv 0) v_int)))
  (b_cons (s_setIx (vv 0) v_int (v_addA (v_ix (vv 0) v_int) v_int))
  (b_one (s_if (t_eq hr.units (v_ix (vv 2) v_int) v_int) (b_one (s_setIx (vv 0) v_int (v_ix (vv 2) v_int))) (b_one (s_setIx (vv 0) v_int v_int)))))) b_nil)
  (b_cons (s_if (t_gt (v_ix (vv 0) v_int) v_int) (b_cons (s_set (i := 3) (by show 3 ∉ ([0] : List Nat); decide) sc.nd rfl (by first | exact Or.inl rfl | exact Or.inr rfl) (v_mod (v_int1 rfl T.b_int (a_cons (v_ix (vv 0) v_int) a_nil)) (vv 1)))
  (b_cons (s_setIx (vv 0) v_int (v_div (v_int1 rfl T.b_int (a_cons (v_ix (vv 0) v_int) a_nil)) (vv 1)))
  (b_one (s_ret (vv 3))))) b_nil)
  (b_cons (s_set (i := 4) (by show 4 ∉ ([0] : List Nat); decide) sc.nd rfl (by first | exact Or.inl rfl | exact Or.inr rfl) (v_ix (vv 0) v_int))
  (b_cons (s_if (t_gt (v_ix (vv 0) v_int) v_int) (b_cons (s_setIx (vv 0) v_int (v_sub (v_ix (vv 0) v_int) v_int))
  (b_one (s_set (i := 4) (by show 4 ∉ ([0] : List Nat); decide) sc.nd rfl (by first | exact Or.inl rfl | exact Or.inr rfl) (v_ix (v_ix (v_ix (vv 0) v_int) (v_sub (v_ix (vv 0) v_int) v_int)) v_int)))) b_nil)
  (b_cons (s_set (i := 3) (by show 3 ∉ ([0] : List Nat); decide) sc.nd rfl (by first | exact Or.inl rfl | exact Or.inr rfl) v_int)
  (b_cons (s_set (i := 5) (by show 5 ∉ ([0] : List Nat); decide) sc.nd rfl (by first | exact Or.inl rfl | exact Or.inr rfl) v_int)
  (b_cons (s_for wx.po wx.calm (i_rng1 rfl T.b_range (a_cons v_int a_nil)) (g_name (i := 6) (by show 6 ∉ ([0] : List Nat); decide) sc.nd rfl (by first | exact Or.inl rfl | exact Or.inr rfl)) (b_one (s_if (t_lt (vv 5) (v_mulA (vv 1) v_int)) (b_cons (s_set (i := 3) (by show 3 ∉ ([0] : List Nat); decide) sc.nd rfl (by first | exact Or.inl rfl | exact Or.inr rfl) (v_addA (v_mulA (vv 3) v_int) (v_callO wx o_law_mix (hr.mono (by decide)) rfl (a_cons (vv 4) (a_cons (v_ix (vv 0) v_int) (a_cons (v_addA (v_mulA v_int (v_ix (vv 0) v_int)) (vv 6)) a_nil))))))
  (b_one (s_set (i := 5) (by show 5 ∉ ([0] : List Nat); decide) sc.nd rfl (by first | exact Or.inl rfl | exact Or.inr rfl) (v_mulA (vv 5) v_int)))) b_nil)))
  (b_one (s_ret (v_mod (v_int1 rfl T.b_int (a_cons (vv 3) a_nil)) (vv 1))))))))))))), ?_⟩)
  · obtain ⟨t, st, many, rfl, _⟩ := h; rfl
  · obtain ⟨t, st, many, rfl, hst, ht, hm', hq⟩ := hc
    by_cases hm2 : many < 2
    · simp!
      rw [decide_eq_true hm2]
      simp!
      exact hq 0 st (by decide) (.inr ⟨hm2, rfl⟩) (hst.mono (by omega))
    · obtain ⟨cells, c1, v2, v3, v4, seed, rfl, h0, h1, h2, h3, h4, h5, h6, h7, h8, h9, h10, h11, h12⟩ := hst
      rw [seq_eq]
      dsimp!
      rw [decide_eq_false hm2]
      dsimp!
      rw [seq_eq]
      dsimp!
      refine r_cut (fun e => ∃ (c1 v2 v3 : Int) (x : Option OD), e = [some (.lst [.st (.lst cells), .st (.int c1), .st (.int v2), .st (.int v3), .st (.int (v4 + 1)), .st (.int seed)]), some (.st (.int many)), x, none, none, none, none] ∧ 0 ≤ c1 ∧ c1 ≤ cells.length ∧ 0 ≤ v2 ∧ v2.natAbs < 2 ^ 2700 ∧ 0 ≤ v3 ∧ v3 ≤ 4 ∧ (0 < v3 → 1 ≤ c1)) (fun R hR => ?_) fun e he => ?_
      · dsimp!
        by_cases q1 : v2 < 2
        · by_cases q2 : v3 < 1
          · by_cases q3 : c1 < cells.length
            · rw [decide_eq_true q1, decide_eq_true q2, decide_eq_true q3]
              obtain ⟨cell, hcell⟩ := get_lt (l := cells) (m := c1.toNat) (by omega)
              obtain ⟨f, x, rfl, hx0, hx1⟩ := h1 cell (List.mem_of_getElem? hcell)
              have hat : atI cells c1 = some (.tup [.int f, .int x]) := by rw [atI_pos _ _ h2]; exact hcell
              simp! [hat]
              by_cases q4 : f = 1
              · rw [decide_eq_true q4]
                simp!
                exact hR _ ⟨c1 + 1, x, v3, _, rfl, by omega, by omega, hx0, hx1, h6, h7, fun _ => by omega⟩
              · rw [decide_eq_false q4]
                simp!
                exact hR _ ⟨c1 + 1, v2, 4, _, rfl, by omega, by omega, h4, h5, by decide, by decide, fun _ => by omega⟩
            · rw [decide_eq_true q1, decide_eq_true q2, decide_eq_false q3]
              exact hR _ ⟨c1, v2, v3, _, rfl, h2, h3, h4, h5, h6, h7, h8⟩
          · rw [decide_eq_true q1, decide_eq_false q2]
            exact hR _ ⟨c1, v2, v3, _, rfl, h2, h3, h4, h5, h6, h7, h8⟩
        · rw [decide_eq_false q1]
          exact hR _ ⟨c1, v2, v3, _, rfl, h2, h3, h4, h5, h6, h7, h8⟩
      · clear h2 h3 h4 h5 h6 h7 h8
        obtain ⟨c1, v2, v3, x2, rfl, h2, h3, h4, h5, h6, h7, h8⟩ := he
        have hmp : 0 < many := by omega
        rw [seq_eq]
        dsimp!
        by_cases q1 : 1 < v2
        · rw [decide_eq_true q1]
          simp!
          obtain ⟨a0, a1⟩ := emodB v2 hmp
          obtain ⟨b0, b1⟩ := edivB h4 hmp
          refine ⟨hmp, cdivB 200 hmp hm', ?_⟩
          refine hq _ _ a0 (.inl a1) ⟨cells, c1, v2 / many, v3, v4 + 1, seed, rfl, h0, h1, h2, h3, b0, ?_, h6, h7, h8, by omega, by omega, h11, h12⟩
          exact Nat.lt_of_le_of_lt (by omega) h5
        · rw [decide_eq_false q1]
          dsimp!
          rw [seq_eq]
          dsimp!
          refine r_cut (fun e => ∃ (v3 base : Int), e = [some (.lst [.st (.lst cells), .st (.int c1), .st (.int v2), .st (.int v3), .st (.int (v4 + 1)), .st (.int seed)]), some (.st (.int many)), x2, none, some (.st (.int base)), none, none] ∧ 0 ≤ v3 ∧ v3 ≤ 4 ∧ (0 < v3 → 1 ≤ c1) ∧ base.natAbs < 2 ^ 12000) (fun R hR => ?_) fun e he => ?_
          · dsimp!
            by_cases q3 : 0 < v3
            · rw [decide_eq_true q3]
              obtain ⟨cell, hcell⟩ := get_lt (l := cells) (m := (c1 - 1).toNat) (by have := h8 q3; omega)
              obtain ⟨f, x, rfl, hx0, hx1⟩ := h1 cell (List.mem_of_getElem? hcell)
              have hat : atI cells (c1 - 1) = some (.tup [.int f, .int x]) := by rw [atI_pos _ _ (by have := h8 q3; omega)]; exact hcell
              simp! [hat]
              exact hR _ ⟨v3 - 1, x, rfl, by omega, by omega, fun _ => h8 q3, natAbs_mono hx1 (by decide)⟩
            · rw [decide_eq_false q3]
              exact hR _ ⟨v3, seed, rfl, h6, h7, h8, natAbs_mono (natAbs_lt h11 h12) (by decide)⟩
          · clear h6 h7 h8
            obtain ⟨v3, base, rfl, h6, h7, h8, hb⟩ := he
            simp!
            refine r_for (e1 := [some (.lst [.st (.lst cells), .st (.int c1), .st (.int v2), .st (.int v3), .st (.int (v4 + 1)), .st (.int seed)]), some (.st (.int many)), x2, some (.st (.int 0)), some (.st (.int base)), some (.st (.int 1)), none]) (fun m e => ∃ (v s : Int) (x6 : Option OD), e = [some (.lst [.st (.lst cells), .st (.int c1), .st (.int v2), .st (.int v3), .st (.int (v4 + 1)), .st (.int seed)]), some (.st (.int many)), x2, some (.st (.int v)), some (.st (.int base)), some (.st (.int s)), x6] ∧ 0 ≤ v ∧ v < TT m ∧ 1 ≤ s ∧ s ≤ TT m) 40 _ (fun Q q => by
              simp!
              exact ⟨⟨by decide, by decide⟩, q⟩) ⟨0, 1, none, rfl, by decide, by decide +kernel, by decide, by decide +kernel⟩ (fun m e hm ⟨v, s, x6, he, a0, a1, a2, a3⟩ => ?_) fun e ⟨v, s, x6, he, a0, a1, a2, a3⟩ => ?_
            · subst he
              dsimp!
              refine ⟨cmulB 200 11 hm' (by decide), ?_⟩
              by_cases q4 : s < many * 1024
              · rw [decide_eq_true q4]
                have hs := TT_succ m
                have hp := TT_pos m
                simp!
                refine ⟨cmulB 2500 59 (TT_bits (m := m) (by omega) a0 (by omega)) (by decide), cmulB 7 7 (by decide) (natAbs_lt h2 (by omega)), base, v4 + 1, _, rfl, hb, ?_, ?_, fun r r0 r1 => ?_⟩
                · refine natAbs_mono (a := 11001) (natAbs_lt (by omega) ?_) (by decide)
                  have e1 : (2 : Int) ^ 11001 = 2 ^ 11000 + 2 ^ 11000 := by rw [show (11001 : Nat) = 11000 + 1 from rfl, Int.pow_succ]; omega
                  have e2 : (t : Int) < 2 ^ 11000 := by exact_mod_cast ht
                  have e3 : (1 : Int) ≤ 2 ^ 11000 := by have : (0 : Int) < 2 ^ 11000 := Int.pow_pos (by decide); omega
                  rw [e1]
                  generalize (2 : Int) ^ 11000 = Z at e2 e3 ⊢
                  omega
                · exact natAbs_mono (a := 20) (natAbs_lt (by omega) (by omega)) (by decide)
                · simp_all!
                  refine ⟨cmulB 2500 59 (TT_bits (m := m) (by omega) (by omega) a3) (by decide), _, _, _, rfl, by omega, ?_, by omega, by omega⟩
                  rw [hs]
                  omega
              · rw [decide_eq_false q4]
                simp!
                have hs := TT_succ m
                have hp := TT_pos m
                exact ⟨v, s, _, rfl, a0, by omega, a2, by omega⟩
            · subst he
              obtain ⟨b0, b1⟩ := emodB v hmp
              simp!
              exact ⟨hmp, hq _ _ b0 (.inl b1) ⟨cells, c1, v2, v3, v4 + 1, seed, rfl, h0, h1, h2, h3, h4, h5, h6, h7, h8, by omega, by omega, h11, h12⟩⟩
end
end K80
-- W_law_shuffled
set_option maxHeartbeats 4000000
namespace K80
open PySem PySem.Spec L2 VL
theorem sc_law_shuffled : FnScope ["store", "items", "row", "k", "at", "one"] ["store", "items"] (defScope (top 62)) := ⟨rfl, rfl, rfl, by decide +kernel, rfl, by decide +kernel, by decide +kernel⟩
def C_law_shuffled (K : Fr) : Ctr := fun os Q E => ∃ (t : Nat) (st : List OD) (d : VL.D) (b : Bool) (ds : List VL.D), os = [.lst st, .st d] ∧ StoreOk t st ∧ t + ds.length < 2 ^ 11000 ∧ d.itm = some (b, ds) ∧ ds.length ≤ 1000 ∧
  ∀ (ds' : List VL.D) (st' : List OD), ds'.Perm ds → StoreOk (t + ds.length) st' → Q (.lst (ds'.map .st)) [.lst st', .st d]
section
variable {P : Program} {w : World} {K : Fr} {mg : Str → Option Value} {base : Heap}
theorem ok_law_shuffled (T : Tx P w K mg base) : Ok P w K mg base "_law_shuffled" ["store", "items"] 5 (C_law_shuffled K) := by
  have o_law_take := ok_law_take (P := P) (w := w) (base := base) T
  have sc : FnScope ["store", "items", "row", "k", "at", "one"] ["store", "items"] (defScope (top 62)) := sc_law_shuffled
  refine ok_of [0] T.d_law_shuffled sc (fun fd F => F.bindsN fun _ _ _ _ _ _ us hl => match us, hl with | [_, _], _ => rfl) (fun os Q E h => ?_) (fun cdv A outer s H G s0 E os Q1 E1 hr hc wx => ⟨_, _, (b_cons (s_set (i := 2) (by show 2 ∉ ([0] : List Nat); decide) sc.nd rfl (by first | exact Or.inl rfl | exact Or.inr rfl) (v_list rfl T.b_list bt_list (a_cons (vv 1) a_nil)))
  (b_cons (s_for wx.po wx.calm (i_rng1 rfl T.b_range (a_cons (v_len rfl T.b_len (a_cons (vv 2) a_nil)) a_nil)) (g_name (i := 3) (by show 3 ∉ ([0] : List Nat); decide) sc.nd rfl (by first | exact Or.inl rfl | exact Or.inr rfl)) (b_cons (s_set (i := 4) (by show 4 ∉ ([0] : List Nat); decide) sc.nd rfl (by first | exact Or.inl rfl | exact Or.inr rfl) (v_addA (vv 3) (v_callO wx o_law_take (hr.mono (by decide)) rfl (a_cons (vv 0) (a_cons (v_sub (v_len rfl T.b_len (a_cons (vv 2) a_nil)) (vv 3)) a_nil)))))
  (b_cons (s_set (i := 5) (by show 5 ∉ ([0] : List Nat); decide) sc.nd rfl (by first | exact Or.inl rfl | exact Or.inr rfl) (v_ix (vv 2) (vv 3)))
  (b_cons (s_setIx (vv 2) (vv 3) (v_ix (vv 2) (vv 4)))
  (b_one (s_setIx (vv 2) (vv 4) (vv 5)))))))
  (b_one (s_ret (vv 2))))), ?_⟩)
  · obtain ⟨t, st, d, b, ds, rfl, _⟩ := h; rfl
  · obtain ⟨t, st, d, b, ds, rfl, hst, ht, hd, hn, hq⟩ := hc
    simp! [hd]
    refine r_for (e1 := [some (.lst st), some (.st d), some (.lst (ds.map .st)), none, none, none]) (fun m e => ∃ (st' : List OD) (ds' : List VL.D) (x3 x4 x5 : Option OD), e = [some (.lst st'), some (.st d), some (.lst (ds'.map .st)), x3, x4, x5] ∧ StoreOk (t + m) st' ∧ ds'.Perm ds) ds.length _ (fun Q q => by
      simp!
      exact ⟨⟨by omega, by omega⟩, by simpa using q⟩) ⟨st, ds, none, none, none, rfl, hst, .refl _⟩ (fun m e hm ⟨st', ds', x3, x4, x5, he, hs, hp⟩ => ?_) fun e ⟨st', ds', x3, x4, x5, he, hs, hp⟩ => ?_
    · subst he
      have hl := hp.length_eq
      simp!
      refine ⟨t + m, st', _, rfl, hs, by omega, natAbs_mono (a := 20) (natAbs_lt (by omega) (by omega)) (by decide), fun v st2 v0 v1 hs2 => ?_⟩
      obtain ⟨a, ha⟩ := get_lt (l := ds') (m := m) (by omega)
      obtain ⟨c, hcc⟩ := get_lt (l := ds') (m := ((m : Int) + v).toNat) (by omega)
      have e1 : atI ds' (m : Int) = some a := by rw [atI_pos _ _ (by omega)]; exact ha
      have e2 : atI ds' ((m : Int) + v) = some c := by rw [atI_pos _ _ (by omega)]; exact hcc
      have i1 : ixN ds'.length (m : Int) = some m := by rw [ixN_pos _ _ (by omega) (by omega)]; rfl
      have i2 : ixN ds'.length ((m : Int) + v) = some ((m : Int) + v).toNat := ixN_pos _ _ (by omega) (by omega)
      simp! [e1, e2, i1, i2, List.length_set]
      exact ⟨st2, _, _, _, _, rfl, hs2, (swap_perm ha hcc).trans hp⟩
    · subst he
      simp!
      exact hq _ _ hp hs
end
end K80
-- W_law_seats
set_option maxHeartbeats 4000000
namespace K80
open PySem PySem.Spec L2 VL
theorem sc_law_seats : FnScope ["store", "n", "slips", "crowd", "count", "few", "base", "tally", "v", "seats", "k", "j", "owners", "piles"] ["store", "n", "slips", "crowd"] (defScope (top 71)) := ⟨rfl, rfl, rfl, by decide +kernel, rfl, by decide +kernel, by decide +kernel⟩
def C_law_seats (K : Fr) : Ctr := fun os Q E => ∃ (t : Nat) (st : List OD) (n slips crowd : Nat), os = [.lst st, .st (.int n), .st (.int slips), .st (.int crowd)] ∧ StoreOk t st ∧ t < 2 ^ 10000 ∧ 1 ≤ n ∧ n ≤ 100 ∧ slips + crowd < 60 * n ∧ slips ≤ 500 ∧ crowd ≤ 500 ∧
  ∀ (pss : Piles) (starts : List Int) (st' : List OD), pss.length = n → NamesOk pss → total pss ≤ slips → (∀ p ∈ pss, p.length ≤ 60) → (∀ x ∈ starts, InN pss x) → starts.length ≤ crowd → StoreOk (t + 5000) st' → Q (.st (.tup [pilesL pss, lstI starts])) [.lst st', .st (.int n), .st (.int slips), .st (.int crowd)]
section
variable {P : Program} {w : World} {K : Fr} {mg : Str → Option Value} {base : Heap}
theorem ok_law_seats (T : Tx P w K mg base) : Ok P w K mg base "_law_seats" ["store", "n", "slips", "crowd"] 6 (C_law_seats K) := by
  have o_law_take := ok_law_take (P := P) (w := w) (base := base) T
  have o_law_shuffled := ok_law_shuffled (P := P) (w := w) (base := base) T
  have sc : FnScope ["store", "n", "slips", "crowd", "count", "few", "base", "tally", "v", "seats", "k", "j", "owners", "piles"] ["store", "n", "slips", "crowd"] (defScope (top 71)) := sc_law_seats
  refine ok_of [0] T.d_law_seats sc (fun fd F => F.bindsN fun _ _ _ _ _ _ us hl => match us, hl with | [_, _, _, _], _ => rfl) (fun os Q E h => ?_) (fun cdv A outer s H G s0 E os Q1 E1 hr hc wx => ⟨_, _, (b_cons (s_set (i := 4) (by show 4 ∉ ([0] : List Nat); decide) sc.nd rfl (by first | exact Or.inl rfl | exact Or.inr rfl) (v_callO wx o_law_take (hr.mono (by decide)) rfl (a_cons (vv 0) (a_cons (v_addA (vv 2) v_int) a_nil))))
  (b_cons (s_set (i := 5) (by show 5 ∉ ([0] : List Nat); decide) sc.nd rfl (by first | exact Or.inl rfl | exact Or.inr rfl) (v_addA v_int (v_callO wx o_law_take (hr.mono (by decide)) rfl (a_cons (vv 0) (a_cons (vv 1) a_nil)))))
  (b_cons (s_set (i := 6) (by show 6 ∉ ([0] : List Nat); decide) sc.nd rfl (by first | exact Or.inl rfl | exact Or.inr rfl) (v_callO wx o_law_take (hr.mono (by decide)) rfl (a_cons (vv 0) (a_cons (vv 1) a_nil))))
  (b_cons (sSetLc (i := 7) (own := [("v", 8)]) (by show 7 ∉ ([0] : List Nat); decide) wx.calm sc.nd rfl rfl (sw_true rfl rfl rfl (by decide +kernel)) rfl (by show ∀ v ∈ ([8] : List Nat), v ∉ ([0] : List Nat); decide) (by decide) (i_rng1 rfl T.b_range (a_cons (vv 1) a_nil)) (blkOk_by (by show blkC ["store", "n", "slips", "crowd", "count", "few", "base", "tally", "v", "seats", "k", "j", "owners", "piles"] (defScope (top 71)) _ _ = true; decide +kernel)) (fun _ _ _ _ _ => ⟨_, (g_name (i := 8) (by show 8 ∉ ([0] : List Nat); decide) sc.nd rfl (by first | exact Or.inl rfl | exact Or.inr rfl))⟩) (fun _ _ _ _ _ => ⟨_, ts_nil⟩) (fun _ _ _ _ _ => ⟨_, v_int⟩))
  (b_cons (s_set (i := 9) (by show 9 ∉ ([0] : List Nat); decide) sc.nd rfl (by first | exact Or.inl rfl | exact Or.inr rfl) (v_lst a_nil))
  (b_cons (s_for wx.po wx.calm (i_rng1 rfl T.b_range (a_cons (v_addA (vv 4) (v_callO wx o_law_take (hr.mono (by decide)) rfl (a_cons (vv 0) (a_cons (v_addA (vv 3) v_int) a_nil)))) a_nil)) (g_name (i := 10) (by show 10 ∉ ([0] : List Nat); decide) sc.nd rfl (by first | exact Or.inl rfl | exact Or.inr rfl)) (b_cons (s_set (i := 8) (by show 8 ∉ ([0] : List Nat); decide) sc.nd rfl (by first | exact Or.inl rfl | exact Or.inr rfl) (v_mod (v_int1 rfl T.b_int (a_cons (v_addA (vv 6) (v_callO wx o_law_take (hr.mono (by decide)) rfl (a_cons (vv 0) (a_cons (vv 5) a_nil)))) a_nil)) (vv 1)))
  (b_cons (s_for wx.po wx.calm (i_rng1 rfl T.b_range (a_cons (vv 1) a_nil)) (g_name (i := 11) (by show 11 ∉ ([0] : List Nat); decide) sc.nd rfl (by first | exact Or.inl rfl | exact Or.inr rfl)) (b_one (s_if (t_ge (v_ix (vv 7) (vv 8)) v_int) (b_one (s_set (i := 8) (by show 8 ∉ ([0] : List Nat); decide) sc.nd rfl (by first | exact Or.inl rfl | exact Or.inr rfl) (v_mod (v_int1 rfl T.b_int (a_cons (v_addA (vv 8) v_int) a_nil)) (vv 1)))) b_nil)))
  (b_cons (s_setIx (vv 7) (vv 8) (v_addA (v_ix (vv 7) (vv 8)) v_int))
  (b_one (s_app (vv 9) (vv 8)))))))
  (b_cons (s_set (i := 12) (by show 12 ∉ ([0] : List Nat); decide) sc.nd rfl (by first | exact Or.inl rfl | exact Or.inr rfl) (v_sl (v_callO wx o_law_shuffled (hr.mono (by decide)) rfl (a_cons (vv 0) (a_cons (v_frz 9 (vv 9)) a_nil))) o_none (o_some (vv 4))))
  (b_cons (sSetLcO (i := 13) (own := [("v", 8)]) (by show 13 ∉ ([0] : List Nat); decide) wx.calm sc.nd rfl rfl (sw_true rfl rfl rfl (by decide +kernel)) rfl (by show ∀ v ∈ ([8] : List Nat), v ∉ ([0] : List Nat); decide) (by decide) (i_rng1 rfl T.b_range (a_cons (vv 1) a_nil)) (blkOk_by (by show blkC ["store", "n", "slips", "crowd", "count", "few", "base", "tally", "v", "seats", "k", "j", "owners", "piles"] (defScope (top 71)) _ _ = true; decide +kernel)) (fun _ _ _ _ _ => ⟨_, (g_name (i := 8) (by show 8 ∉ ([0] : List Nat); decide) sc.nd rfl (by first | exact Or.inl rfl | exact Or.inr rfl))⟩) (fun _ _ _ _ _ => ⟨_, ts_nil⟩) (fun _ _ _ _ _ => ⟨_, (v_lst a_nil)⟩))
  (b_cons (s_for wx.po wx.calm (i_rng1 rfl T.b_range (a_cons (vv 4) a_nil)) (g_name (i := 10) (by show 10 ∉ ([0] : List Nat); decide) sc.nd rfl (by first | exact Or.inl rfl | exact Or.inr rfl)) (b_one (s_appAt (vv 13) (v_ix (vv 12) (vv 10)) (fun _ _ => rfl) (v_ix (vv 9) (vv 10)) (lp_ix (lp_var 9) (lp_var 10)))))
  (b_one (s_ret (v_tup (a_cons (v_frz 13 (vv 13)) (a_cons (v_sl (vv 9) (o_some (vv 4)) o_none) a_nil)))))))))))))), ?_⟩)
  · obtain ⟨t, st, n, slips, crowd, rfl, _⟩ := h; rfl
  · obtain ⟨t, st, n, slips, crowd, rfl, hst, ht, hn1, hn2, hz, hz1, hz2, hq⟩ := hc
    dsimp!
    rw [seq_eq]
    dsimp!
    refine ⟨t, st, _, rfl, hst, by omega, natAbs_mono (a := 20) (natAbs_lt (by omega) (by omega)) (by decide), fun count st1 c0 c1 s1 => ?_⟩
    dsimp!
    rw [seq_eq]
    dsimp!
    refine ⟨_, st1, _, rfl, s1, by omega, natAbs_mono (a := 20) (natAbs_lt (by omega) (by omega)) (by decide), fun few st2 f0 f1 s2 => ?_⟩
    dsimp!
    rw [seq_eq]
    dsimp!
    refine ⟨_, st2, _, rfl, s2, by omega, natAbs_mono (a := 20) (natAbs_lt (by omega) (by omega)) (by decide), fun base st3 b0 b1 s3 => ?_⟩
    dsimp!
    rw [seq_eq]
    dsimp!
    refine r_lc (e1 := [some (.lst st3), some (.st (.int n)), some (.st (.int slips)), some (.st (.int crowd)), some (.st (.int count)), some (.st (.int (1 + few))), some (.st (.int base)), none, none, none, none, none, none, none]) (fun m acc e => e = [some (.lst st3), some (.st (.int n)), some (.st (.int slips)), some (.st (.int crowd)), some (.st (.int count)), some (.st (.int (1 + few))), some (.st (.int base)), none, none, none, none, none, none, none] ∧ acc = (List.replicate m (0 : Int)).map .int) n _ (fun Q q => by
      simp!
      exact ⟨⟨by omega, by omega⟩, q⟩) ⟨rfl, rfl⟩ (fun m acc e hm ⟨he, ha⟩ => ?_) fun acc e ⟨he, ha⟩ => ?_
    · subst he ha
      simp!
      refine ⟨szLt (by rw [List.length_replicate]; omega), ?_⟩
      rw [List.map_replicate, ← List.replicate_succ', List.replicate_succ]
    · subst he ha
      rw [← tally_nil]
      dsimp!
      rw [seq_eq]
      dsimp!
      refine ⟨szOk (by decide), ?_⟩
      refine r_cut (fun e => ∃ (ss : List Int) (st4 : List OD) (T : List Int) (x8 x10 x11 : Option OD), e = [some (.lst st4), some (.st (.int n)), some (.st (.int slips)), some (.st (.int crowd)), some (.st (.int count)), some (.st (.int (1 + few))), some (.st (.int base)), some (.lst ((T.map VL.D.int).map .st)), x8, some (.lst ((ss.map VL.D.int).map .st)), x10, x11, none, none] ∧ StoreOk (t + 2000) st4 ∧ (∀ x ∈ ss, 0 ≤ x ∧ x < n) ∧ (∀ v, ss.count v ≤ 60) ∧ count ≤ (ss.length : Int) ∧ (ss.length : Int) ≤ count + crowd) (fun R hR => ?_) fun e he => ?_
      · refine ⟨_, st3, (crowd : Int) + 1, rfl, s3, by omega, natAbs_mono (a := 20) (natAbs_lt (by omega) (by omega)) (by decide), fun more st4 m0 m1 s4 => ?_⟩
        have hcs : count ≤ slips := by omega
        have hmc : more ≤ crowd := by omega
        refine ⟨⟨by omega, by omega⟩, fun m e => ∃ (ss : List Int) (st4 : List OD) (x8 x10 x11 : Option OD), e = [some (.lst st4), some (.st (.int n)), some (.st (.int slips)), some (.st (.int crowd)), some (.st (.int count)), some (.st (.int (1 + few))), some (.st (.int base)), some (.lst (((tally n ss).map VL.D.int).map .st)), x8, some (.lst ((ss.map VL.D.int).map .st)), x10, x11, none, none] ∧ StoreOk (t + 4 + m) st4 ∧ (∀ x ∈ ss, 0 ≤ x ∧ x < n) ∧ ss.length = m ∧ ∀ v, ss.count v ≤ 60, ⟨[], st4, none, none, none, rfl, s4.mono (by omega), (fun x h => nomatch h), rfl, fun v => by simp⟩, fun m e hm ⟨ss, st5, x8, x10, x11, he, s5, hss, hsl, hsc⟩ => ?_, fun e ⟨ss, st5, x8, x10, x11, he, s5, hss, hsl, hsc⟩ => ?_⟩
        · subst he
          have hm' : m < slips + crowd := by omega
          dsimp!
          rw [seq_eq]
          dsimp!
          refine ⟨_, st5, 1 + few, rfl, s5, by omega, natAbs_mono (a := 20) (natAbs_lt (by omega) (by omega)) (by decide), fun w st6 w0 w1 s6 => ?_⟩
          dsimp!
          refine ⟨by omega, ?_⟩
          obtain ⟨v00, v01⟩ := emodB (base + w) (p := (n : Int)) (by omega)
          generalize (base + w) % (n : Int) = v0 at v00 v01 ⊢
          refine r_cut (fun e => ∃ (v : Int) (x11 : Option OD), e = [some (.lst st6), some (.st (.int n)), some (.st (.int slips)), some (.st (.int crowd)), some (.st (.int count)), some (.st (.int (1 + few))), some (.st (.int base)), some (.lst (((tally n ss).map VL.D.int).map .st)), some (.st (.int v)), some (.lst ((ss.map VL.D.int).map .st)), some (.st (.int m)), x11, none, none] ∧ Seat n ss v0 n v) (fun R hR => ?_) fun e he => ?_
          · refine r_for (e1 := [some (.lst st6), some (.st (.int n)), some (.st (.int slips)), some (.st (.int crowd)), some (.st (.int count)), some (.st (.int (1 + few))), some (.st (.int base)), some (.lst (((tally n ss).map VL.D.int).map .st)), some (.st (.int v0)), some (.lst ((ss.map VL.D.int).map .st)), some (.st (.int m)), x11, none, none])
              (fun j e => ∃ (v : Int) (x11 : Option OD), e = [some (.lst st6), some (.st (.int n)), some (.st (.int slips)), some (.st (.int crowd)), some (.st (.int count)), some (.st (.int (1 + few))), some (.st (.int base)), some (.lst (((tally n ss).map VL.D.int).map .st)), some (.st (.int v)), some (.lst ((ss.map VL.D.int).map .st)), some (.st (.int m)), x11, none, none] ∧ Seat n ss v0 j v) n _ (fun Q q => by
                simp!
                exact ⟨⟨by omega, by omega⟩, q⟩) ⟨v0, x11, rfl, Seat.zero ⟨v00, v01⟩⟩ (fun j e hj ⟨v, x11, he, hv⟩ => ?_) fun e ⟨v, x11, he, hv⟩ => ?_
            · subst he
              have a1 : L2.atI ((tally n ss).map VL.D.int) v = some (.int ((ss.count v : Nat))) := map_at hv.inn.1 (tally_get hv.inn.1 hv.inn.2)
              simp! [a1]
              by_cases q : 60 ≤ ss.count v
              · rw [decide_eq_true (by omega)]
                simp!
                exact ⟨by omega, _, _, rfl, hv.go hn1 q⟩
              · rw [decide_eq_false (by omega)]
                simp!
                exact ⟨_, _, rfl, hv.stay (by omega)⟩
            · subst he
              exact hR _ ⟨_, _, rfl, hv⟩
          · obtain ⟨v, x11, rfl, hv⟩ := he
            have hfree := hv.end_ hn1 hss (by omega)
            obtain ⟨i0, i1⟩ := hv.inn
            have a1 : L2.atI ((tally n ss).map VL.D.int) v = some (.int ((ss.count v : Nat))) := map_at i0 (tally_get i0 i1)
            have a2 : ixN (tally n ss).length v = some v.toNat := by rw [tally_len]; exact ixN_pos _ _ i0 i1
            simp! [a1, a2, List.length_map]
            rw [← tally_snoc i0 i1]
            refine ⟨szLt (by omega), ss ++ [v], st6, _, _, _, by simp only [List.map_append]; rfl, s6, fun x hx => ?_, by simp [hsl], fun y => ?_⟩
            · rcases List.mem_append.mp hx with h | h
              · exact hss x h
              · rw [List.mem_singleton.mp h]; exact hv.inn
            · rw [List.count_append, List.count_cons, List.count_nil]
              have := hsc y
              by_cases q : v = y
              · subst q; simp; omega
              · have ne : (v == y) = false := Bool.eq_false_iff.mpr fun h => q (eq_of_beq h)
                rw [ne]; simp; omega
        · subst he
          exact hR _ ⟨ss, st5, _, x8, x10, x11, rfl, s5.mono (by omega), hss, hsc, by omega, by omega⟩
      · obtain ⟨ss, st4, T, x8, x10, x11, rfl, s4, hss, hcnt, hlo, hhi⟩ := he
        obtain ⟨cn, rfl⟩ := Int.eq_ofNat_of_zero_le c0
        have hcl : cn ≤ ss.length := by omega
        have hcs : cn ≤ slips := by omega
        rw [seq_eq]
        dsimp!
        refine ⟨t + 2000, st4, _, false, ss.map .int, rfl, s4, by rw [List.length_map]; omega, rfl, by rw [List.length_map]; omega, fun ds' st5 hp s5 => ?_⟩
        rw [List.length_map] at s5
        obtain ⟨ss', rfl, hp'⟩ := perm_map hp
        have hl' := hp'.length_eq
        have cA : cutD (ss'.map VL.D.int) none (some (cn : Int)) = (ss'.take cn).map .int := by rw [cut_to _ (by rw [List.length_map]; omega), List.map_take]
        have cB : cutD (ss.map VL.D.int) (some (cn : Int)) none = (ss.drop cn).map .int := by rw [cut_from _ (by rw [List.length_map]; omega), List.map_drop]
        dsimp! [cA]
        rw [seq_eq]
        dsimp!
        refine r_lcO (e1 := [some (.lst st5), some (.st (.int n)), some (.st (.int slips)), some (.st (.int crowd)), some (.st (.int cn)), some (.st (.int (1 + few))), some (.st (.int base)), some (.lst ((T.map VL.D.int).map .st)), x8, some (.st (.lst (ss.map VL.D.int))), x10, x11, some (.lst (((ss'.take cn).map VL.D.int).map .st)), none])
          (fun m acc e => e = [some (.lst st5), some (.st (.int n)), some (.st (.int slips)), some (.st (.int crowd)), some (.st (.int cn)), some (.st (.int (1 + few))), some (.st (.int base)), some (.lst ((T.map VL.D.int).map .st)), none, some (.st (.lst (ss.map VL.D.int))), x10, x11, some (.lst (((ss'.take cn).map VL.D.int).map .st)), none] ∧ acc = (List.replicate m ([] : List Int)).map fun p => OD.lst ((p.map VL.D.int).map .st)) n _ (fun Q q => by
            simp!
            exact ⟨⟨by omega, by omega⟩, q⟩) ⟨rfl, rfl⟩ (fun m acc e hm ⟨he, ha⟩ => ?_) fun acc e ⟨he, ha⟩ => ?_
        · subst he ha
          simp!
          refine ⟨szOk (by decide), szLt (by rw [List.length_replicate]; omega), ?_⟩
          rw [List.map_replicate, show (OD.lst (List.map OD.st (List.map VL.D.int []))) = OD.lst [] from rfl, ← List.replicate_succ', List.replicate_succ]
        · subst he ha
          dsimp!
          have hor : ∀ x ∈ ss'.take cn, 0 ≤ x ∧ x < n := fun x hx => hss x (hp'.mem_iff.mp (List.mem_of_mem_take hx))
          have hol : (ss'.take cn).length = cn := by rw [List.length_take]; omega
          refine r_for (e1 := [some (.lst st5), some (.st (.int n)), some (.st (.int slips)), some (.st (.int crowd)), some (.st (.int cn)), some (.st (.int (1 + few))), some (.st (.int base)), some (.lst ((T.map VL.D.int).map .st)), none, some (.st (.lst (ss.map VL.D.int))), x10, x11, some (.lst (((ss'.take cn).map VL.D.int).map .st)), some (.lst ((dealS n (ss'.take cn) ss 0).map fun p => OD.lst ((p.map VL.D.int).map .st)))])
            (fun m e => ∃ x10, e = [some (.lst st5), some (.st (.int n)), some (.st (.int slips)), some (.st (.int crowd)), some (.st (.int cn)), some (.st (.int (1 + few))), some (.st (.int base)), some (.lst ((T.map VL.D.int).map .st)), none, some (.st (.lst (ss.map VL.D.int))), x10, x11, some (.lst (((ss'.take cn).map VL.D.int).map .st)), some (.lst ((dealS n (ss'.take cn) ss m).map fun p => OD.lst ((p.map VL.D.int).map .st)))]) cn _ (fun Q q => by
              simp!
              exact ⟨⟨by omega, by omega⟩, q⟩) ⟨x10, rfl⟩ (fun m e hm ⟨x10, he⟩ => ?_) fun e ⟨x10, he⟩ => ?_
          · subst he
            have hd := dealS_ok hor hss m (by omega) (by omega)
            obtain ⟨o, ho⟩ := get_lt (l := ss'.take cn) (m := m) (by omega)
            obtain ⟨z, hz⟩ := get_lt (l := ss) (m := m) (by omega)
            have a1 : L2.atI ((ss'.take cn).map VL.D.int) (m : Int) = some (.int o) := map_at (by omega) ho
            have a2 : L2.atI (ss.map VL.D.int) (m : Int) = some (.int z) := map_at (by omega) hz
            have hdl := dealS_len n (ss'.take cn) ss m
            obtain ⟨o0, o1⟩ := hor o (List.mem_of_getElem? ho)
            obtain ⟨q, hq'⟩ := get_lt (l := dealS n (ss'.take cn) ss m) (m := o.toNat) (by omega)
            have hql := hd.cnt _ _ hq'
            have hqc : (((ss'.take cn).take m).count (o.toNat : Int)) ≤ ((ss'.take cn).take m).length := List.count_le_length
            rw [List.length_take] at hqc
            have a3 : ((dealS n (ss'.take cn) ss m).map fun p => OD.lst ((p.map VL.D.int).map .st))[o.toNat]? = some (OD.lst ((q.map VL.D.int).map .st)) := by rw [List.getElem?_map, hq']; rfl
            simp! [a1, a2]
            rw [a3]
            refine ⟨o0, ?_⟩
            simp! [List.length_map]
            refine ⟨szLt (by omega), some (.st (.int m)), ?_⟩
            have e1 : dealS n (ss'.take cn) ss (m + 1) = (dealS n (ss'.take cn) ss m).set o.toNat (q ++ [z]) := by
              show (dealS n (ss'.take cn) ss m).set ((ss'.take cn).getD m 0).toNat ((dealS n (ss'.take cn) ss m).getD ((ss'.take cn).getD m 0).toNat [] ++ [ss.getD m 0]) = _
              rw [getD_some ho, getD_some hz, List.getD_eq_getElem?_getD, hq']; rfl
            rw [e1, List.map_set]
            simp only [List.map_append]
            rfl
          · subst he
            dsimp! [cB]
            refine ⟨szOk (by decide), ?_⟩
            have hd := dealS_ok hor hss cn (by omega) (by omega)
            have hdl := dealS_len n (ss'.take cn) ss cn
            rw [frzL_lists]
            refine hq (dealS n (ss'.take cn) ss cn) (ss.drop cn) st5 hdl hd.names (by rw [hd.tot]; exact hcs) (fun p hp => ?_) (fun x hx => names_in hdl x (hss x (List.mem_of_mem_drop hx))) (by rw [List.length_drop]; omega) (s5.mono (by omega))
            obtain ⟨i, hi, e⟩ := List.mem_iff_getElem.mp hp
            rw [hd.cnt i p (by rw [List.getElem?_eq_getElem hi, e])]
            have h1 : (((ss'.take cn).take cn).count (i : Int)) ≤ ss'.count (i : Int) := ((List.take_sublist cn _).trans (List.take_sublist cn _)).count_le _
            rw [hp'.count_eq] at h1
            exact Nat.le_trans h1 (hcnt _)
end
end K80
-- W_law_pack_of
set_option maxHeartbeats 4000000
namespace K80
open PySem PySem.Spec L2 VL
theorem sc_law_pack_of : FnScope ["piles", "counts", "v", "name"] ["piles"] (defScope (top 67)) := ⟨rfl, rfl, rfl, by decide +kernel, rfl, by decide +kernel, by decide +kernel⟩
def C_law_pack_of (K : Fr) : Ctr := fun os Q E => ∃ (pss : List (List Int)) (d : VL.D), os = [.st d] ∧ PilesD d pss ∧ pss.length ≤ 1000 ∧ (∀ ns ∈ pss, ∀ x ∈ ns, 0 ≤ x ∧ x < pss.length) ∧ Q (.lst (((tally pss.length pss.flatten).map VL.D.int).map .st)) os
section
variable {P : Program} {w : World} {K : Fr} {mg : Str → Option Value} {base : Heap}
theorem ok_law_pack_of (T : Tx P w K mg base) : Ok P w K mg base "_law_pack_of" ["piles"] 3 (C_law_pack_of K) := by
  have sc : FnScope ["piles", "counts", "v", "name"] ["piles"] (defScope (top 67)) := sc_law_pack_of
  refine ok_of [] T.d_law_pack_of sc (fun fd F => F.bindsN fun _ _ _ _ _ _ us hl => match us, hl with | [_], _ => rfl) (fun os Q E h => ?_) (fun cdv A outer s H G s0 E os Q1 E1 hr hc wx => ⟨_, _, (b_cons (sSetLc (i := 1) (own := [("v", 2)]) (by show 1 ∉ ([] : List Nat); decide) wx.calm sc.nd rfl rfl (sw_true rfl rfl rfl (by decide +kernel)) rfl (by show ∀ v ∈ ([2] : List Nat), v ∉ ([] : List Nat); decide) (by decide) (i_rng1 rfl T.b_range (a_cons (v_len rfl T.b_len (a_cons (vv 0) a_nil)) a_nil)) (blkOk_by (by show blkC ["piles", "counts", "v", "name"] (defScope (top 67)) _ _ = true; decide +kernel)) (fun _ _ _ _ _ => ⟨_, (g_name (i := 2) (by show 2 ∉ ([] : List Nat); decide) sc.nd rfl (by first | exact Or.inl rfl | exact Or.inr rfl))⟩) (fun _ _ _ _ _ => ⟨_, ts_nil⟩) (fun _ _ _ _ _ => ⟨_, v_int⟩))
  (b_cons (s_for wx.po wx.calm (i_rng1 rfl T.b_range (a_cons (v_len rfl T.b_len (a_cons (vv 0) a_nil)) a_nil)) (g_name (i := 2) (by show 2 ∉ ([] : List Nat); decide) sc.nd rfl (by first | exact Or.inl rfl | exact Or.inr rfl)) (b_one (s_for wx.po wx.calm (i_seq (v_ix (vv 0) (vv 2))) (g_name (i := 3) (by show 3 ∉ ([] : List Nat); decide) sc.nd rfl (by first | exact Or.inl rfl | exact Or.inr rfl)) (b_one (s_setIx (vv 1) (vv 3) (v_addA (v_ix (vv 1) (vv 3)) v_int))))))
  (b_one (s_ret (vv 1))))), ?_⟩)
  · obtain ⟨pss, d, rfl, _⟩ := h; rfl
  · obtain ⟨pss, d, rfl, ⟨b, ds, hd, hr⟩, hn, hx, hq⟩ := hc
    have hl := hr.length
    dsimp!
    rw [seq_eq]
    dsimp!
    refine r_lc (e1 := [some (.st d), none, none, none]) (fun m acc e => e = [some (.st d), none, none, none] ∧ acc = List.replicate m (.int 0)) pss.length _ (fun Q q => by
      simp! [gLenE hd, hl]
      exact ⟨⟨by omega, by omega⟩, by simpa using q⟩) ⟨rfl, rfl⟩ (fun m acc e hm ⟨he, ha⟩ => ?_) fun acc e ⟨he, ha⟩ => ?_
    · subst he ha
      simp!
      exact ⟨szLt (by rw [List.length_replicate]; omega), by rw [← List.replicate_succ', List.replicate_succ]⟩
    · subst he ha
      simp!
      refine r_for (e1 := [some (.st d), some (.lst ((List.replicate pss.length (VL.D.int 0)).map .st)), none, none]) (fun m e => ∃ x2 x3, e = [some (.st d), some (.lst (((tally pss.length (pss.take m).flatten).map VL.D.int).map .st)), x2, x3]) pss.length _ (fun Q q => by
        simp! [gLenE hd, hl]
        exact ⟨⟨by omega, by omega⟩, by simpa using q⟩) ⟨none, none, by simp only [List.take_zero, List.flatten_nil, tally_nil, List.map_replicate]⟩ (fun m e hm ⟨x2, x3, he⟩ => ?_) fun e ⟨x2, x3, he⟩ => ?_
      · subst he
        obtain ⟨ns, hns⟩ := get_lt hm
        obtain ⟨dp, bp, h2, h3⟩ := hr.get hns
        have e1 : atI ds (m : Int) = some dp := by rw [atI_pos _ _ (by omega)]; exact h2
        simp!
        refine r_for (e1 := [some (.st d), some (.lst (((tally pss.length (pss.take m).flatten).map VL.D.int).map .st)), some (.st (.int m)), x3]) (fun k e => ∃ x3, e = [some (.st d), some (.lst (((tally pss.length ((pss.take m).flatten ++ ns.take k)).map VL.D.int).map .st)), some (.st (.int m)), x3]) ns.length (fun i => (ns.map VL.D.int).getD i .non) (fun Q q => by
          simp! [hd, e1, items_itm h3]
          exact q) ⟨x3, by rw [List.take_zero, List.append_nil]⟩ (fun k e hk ⟨x3, he⟩ => ?_) fun e ⟨x3, he⟩ => ?_
        · subst he
          obtain ⟨y, hy⟩ := get_lt hk
          obtain ⟨h0, h1⟩ := hx ns (List.mem_of_getElem? hns) y (List.mem_of_getElem? hy)
          have g1 := tally_get (row := (pss.take m).flatten ++ ns.take k) h0 (n := pss.length) h1
          have e2 : atI ((tally pss.length ((pss.take m).flatten ++ ns.take k)).map VL.D.int) y = some (.int (((pss.take m).flatten ++ ns.take k).count y : Nat)) := by rw [atI_pos _ _ h0, List.getElem?_map, g1]; rfl
          rw [getD_int hy]
          simp! [e2, tally_len, ixN_pos _ _ h0 h1]
          rw [take_snoc hy, ← List.append_assoc, tally_snoc h0 h1]
          exact ⟨_, rfl⟩
        · subst he
          simp_all!
          rw [take_snoc hns, List.flatten_append, List.take_length, List.flatten_cons, List.flatten_nil, List.append_nil]
          exact ⟨_, _, rfl⟩
      · subst he
        simp! [List.take_length]
        exact hq
end
end K80
-- W_law_ring_rows
set_option maxHeartbeats 4000000
namespace K80
open PySem PySem.Spec L2 VL
theorem sc_law_ring_rows : FnScope ["arrow_row", "found", "v", "path", "at", "k"] ["arrow_row"] (defScope (top 70)) := ⟨rfl, rfl, rfl, by decide +kernel, rfl, by decide +kernel, by decide +kernel⟩
def C_law_ring_rows (K : Fr) : Ctr := fun os Q E => ∃ (d : VL.D) (a : Arr), os = [.st d] ∧ d = .lst (a.map optD) ∧ a.length ≤ 1000 ∧ ArrOk a ∧ Q (.st (.tup ((lawRings a a.length).map tupI))) os
section
variable {P : Program} {w : World} {K : Fr} {mg : Str → Option Value} {base : Heap}
theorem ok_law_ring_rows (T : Tx P w K mg base) : Ok P w K mg base "_law_ring_rows" ["arrow_row"] 3 (C_law_ring_rows K) := by
  have sc : FnScope ["arrow_row", "found", "v", "path", "at", "k"] ["arrow_row"] (defScope (top 70)) := sc_law_ring_rows
  refine ok_of [] T.d_law_ring_rows sc (fun fd F => F.bindsN fun _ _ _ _ _ _ us hl => match us, hl with | [_], _ => rfl) (fun os Q E h => ?_) (fun cdv A outer s H G s0 E os Q1 E1 hr hc wx => ⟨_, _, (b_cons (s_set (i := 1) (by show 1 ∉ ([] : List Nat); decide) sc.nd rfl (by first | exact Or.inl rfl | exact Or.inr rfl) (v_lst a_nil))
  (b_cons (s_for wx.po wx.calm (i_rng1 rfl T.b_range (a_cons (v_len rfl T.b_len (a_cons (vv 0) a_nil)) a_nil)) (g_name (i := 2) (by show 2 ∉ ([] : List Nat); decide) sc.nd rfl (by first | exact Or.inl rfl | exact Or.inr rfl)) (b_cons (s_set (i := 3) (by show 3 ∉ ([] : List Nat); decide) sc.nd rfl (by first | exact Or.inl rfl | exact Or.inr rfl) (v_lst (a_cons (vv 2) a_nil)))
  (b_cons (s_set (i := 4) (by show 4 ∉ ([] : List Nat); decide) sc.nd rfl (by first | exact Or.inl rfl | exact Or.inr rfl) (v_ix (vv 0) (vv 2)))
  (b_cons (s_for wx.po wx.calm (i_rng1 rfl T.b_range (a_cons (v_len rfl T.b_len (a_cons (vv 0) a_nil)) a_nil)) (g_name (i := 5) (by show 5 ∉ ([] : List Nat); decide) sc.nd rfl (by first | exact Or.inl rfl | exact Or.inr rfl)) (b_cons (s_if (t_w (w_or (t_isN (vv 4) v_non) (w_or1 (t_eq hr.units (vv 4) (vv 2))))) (b_one s_break) b_nil)
  (b_cons (s_app (vv 3) (vv 4))
  (b_one (s_set (i := 4) (by show 4 ∉ ([] : List Nat); decide) sc.nd rfl (by first | exact Or.inl rfl | exact Or.inr rfl) (v_ix (vv 0) (vv 4)))))))
  (b_one (s_if (t_w (w_and (t_notN (vv 4) v_non) (w_and (t_eq hr.units (vv 4) (vv 2)) (w_and1 (t_eq hr.units (v_minL wx.calm rfl T.b_min (a_cons (vv 3) a_nil)) (vv 2)))))) (b_one (s_app (vv 1) (v_tuple rfl T.b_tuple bt_tuple (a_cons (vv 3) a_nil)))) b_nil))))))
  (b_one (s_ret (v_tuple rfl T.b_tuple bt_tuple (a_cons (vv 1) a_nil)))))), ?_⟩)
  · obtain ⟨d, a, rfl, _⟩ := h; rfl
  · obtain ⟨d, a, rfl, rfl, hz, ha, hq⟩ := hc
    dsimp!
    rw [seq_eq]
    simp!
    refine ⟨szOk (by omega), ?_⟩
    have lrl : ∀ m, (lawRings a m).length ≤ m := fun m => by
      have := congrArg List.length (lawRings_heads a m)
      rw [List.length_map] at this
      rw [this]
      unfold lawHeads
      refine Nat.le_trans (List.length_filter_le _ _) ?_
      rw [List.length_map, List.length_range]; exact Nat.le_refl _
    refine r_for (e1 := [some (.st (.lst (a.map optD))), some (.lst []), none, none, none, none])
      (fun m e => ∃ x2 x3 x4 x5, e = [some (.st (.lst (a.map optD))), some (.lst (((lawRings a m).map tupI).map .st)), x2, x3, x4, x5]) a.length _ (fun Q q => by
        simp! [List.length_map]
        exact ⟨⟨by omega, by omega⟩, by simpa using q⟩) ⟨none, none, none, none, rfl⟩ (fun m e hm ⟨x2, x3, x4, x5, he⟩ => ?_) fun e ⟨x2, x3, x4, x5, he⟩ => ?_
    · subst he
      have nxat : ∀ v : Int, 0 ≤ v → v < a.length → L2.atI (a.map optD) v = some (optD (nx a v)) := fun v h0 h1 => by
        rw [atI_pos _ _ h0, List.getElem?_map, arr_get h0 h1]; rfl
      have a1 := nxat m (by omega) (by omega)
      dsimp!
      rw [seq_eq]
      dsimp!
      rw [seq_eq]
      dsimp! [a1]
      refine ⟨szOk (by omega), ?_⟩
      generalize hE : lawEnd a m = E
      refine r_cut (fun e => ∃ x5, e = [some (.st (.lst (a.map optD))), some (.lst (((lawRings a m).map tupI).map .st)), some (.st (.int m)), some (.lst ((E.1.map VL.D.int).map .st)), some (.st (optD E.2)), x5]) (fun R hR => ?_) fun e he => ?_
      · refine r_for (e1 := [some (.st (.lst (a.map optD))), some (.lst (((lawRings a m).map tupI).map .st)), some (.st (.int m)), some (.lst ((([(m : Int)] : List Int).map VL.D.int).map .st)), some (.st (optD (nx a m))), x5])
          (fun k e => ∃ (p : List Int) (at_ : Option Int) (x5 : Option OD), e = [some (.st (.lst (a.map optD))), some (.lst (((lawRings a m).map tupI).map .st)), some (.st (.int m)), some (.lst ((p.map VL.D.int).map .st)), some (.st (optD at_)), x5] ∧ lawWalk a m (a.length - k) (p, at_) = E ∧ p.length = k + 1 ∧ ∀ x, at_ = some x → 0 ≤ x ∧ x < a.length) a.length _ (fun Q q => by
          simp! [List.length_map]
          exact ⟨⟨by omega, by omega⟩, by simpa using q⟩) ⟨[(m : Int)], nx a m, x5, rfl, hE, rfl, fun x h => nx_in ha h⟩ (fun k e hk ⟨p, at_, x5, he, hw, hpl, hin⟩ => ?_) fun e ⟨p, at_, x5, he, hw, hpl, hin⟩ => ?_
        · subst he
          rw [show a.length - k = (a.length - (k + 1)) + 1 by omega] at hw
          simp!
          cases at_ with
          | none =>
            simp! [optD_none]
            have hw' : (p, none) = E := hw
            subst hw'
            exact hR _ ⟨_, rfl⟩
          | some x =>
            obtain ⟨h0, h1⟩ := hin x rfl
            simp! [optD_some]
            by_cases q : x = m
            · rw [decide_eq_true q]
              simp!
              have hw' : (if x = (m : Int) then (p, some x) else lawWalk a m (a.length - (k + 1)) (p ++ [x], nx a x)) = E := hw
              rw [if_pos q] at hw'
              subst hw'
              exact hR _ ⟨_, rfl⟩
            · rw [decide_eq_false q]
              have hw' : (if x = (m : Int) then (p, some x) else lawWalk a m (a.length - (k + 1)) (p ++ [x], nx a x)) = E := hw
              rw [if_neg q] at hw'
              simp! [nxat x h0 h1, List.length_map]
              refine ⟨szLt (by omega), p ++ [x], nx a x, some (.st (.int k)), ?_, hw', by simp [hpl], fun y h => nx_in ha h⟩
              simp only [List.map_append]; rfl
        · subst he
          rw [Nat.sub_self] at hw
          have hw' : (p, at_) = E := hw
          subst hw'
          exact hR _ ⟨_, rfl⟩
      · obtain ⟨x5, rfl⟩ := he
        have hne := lawEnd_len a m
        have hlr : lawRings a (m + 1) = lawRings a m ++ (if isL a m then [(lawEnd a m).1] else []) := rfl
        have his : isL a m = (decide ((lawEnd a m).2 = some (m : Int)) && decide (minI (lawEnd a m).1 = (m : Int))) := rfl
        have hl := lrl m
        rw [hE] at hne hlr his
        obtain ⟨p, o⟩ := E
        simp only [] at hne hlr his ⊢
        cases o with
        | none =>
          simp! [optD_none]
          rw [his] at hlr
          simp at hlr
          rw [hlr]
          exact ⟨_, _, _, _, rfl⟩
        | some x =>
          simp! [optD_some]
          by_cases q : x = m
          · rw [decide_eq_true q]
            subst q
            simp!
            refine ⟨p, rfl, List.length_pos_iff.mpr hne.1, fun y hy hl => ?_⟩
            have hmin := minI_eq hy hl
            rw [hmin] at his
            simp_all!
            by_cases q2 : y = (m : Int)
            · rw [decide_eq_true q2]
              subst q2
              simp at his
              rw [his] at hlr
              simp! [List.length_map]
              refine ⟨szLt (by omega), ?_⟩
              rw [hlr]
              exact ⟨_, _, _, _, by simp only [List.map_append]; rfl⟩
            · rw [decide_eq_false q2]
              simp [q2] at his
              rw [his] at hlr
              simp!
              rw [hlr, if_neg (by simp), List.append_nil]
              exact ⟨_, _, _, _, rfl⟩
          · rw [decide_eq_false q]
            simp!
            simp [q] at his
            rw [his] at hlr
            rw [hlr, if_neg (by simp), List.append_nil]
            exact ⟨_, _, _, _, rfl⟩
    · subst he
      simp!
      exact hq
end
end K80
-- W_law_end_counts
set_option maxHeartbeats 4000000
namespace K80
open PySem PySem.Spec L2 VL
theorem sc_law_end_counts : FnScope ["sizes", "starts", "pack", "counts", "v", "j"] ["sizes", "starts", "pack"] (defScope (top 63)) := ⟨rfl, rfl, rfl, by decide +kernel, rfl, by decide +kernel, by decide +kernel⟩
def C_law_end_counts (K : Fr) : Ctr := fun os Q E => ∃ (sizes starts pack : List Int) (d1 d3 : VL.D) (o2 : OD) (b1 b3 : Bool), os = [.st d1, o2, .st d3] ∧ d1.itm = some (b1, sizes.map .int) ∧ SeqO o2 starts ∧ d3.itm = some (b3, pack.map .int) ∧
  sizes.length ≤ 1000 ∧ pack.length = sizes.length ∧ starts.length ≤ 100000 ∧ (∀ x ∈ starts, 0 ≤ x ∧ x < sizes.length) ∧ Q (.lst (((endc sizes starts pack).map VL.D.int).map .st)) os
section
variable {P : Program} {w : World} {K : Fr} {mg : Str → Option Value} {base : Heap}
theorem ok_law_end_counts (T : Tx P w K mg base) : Ok P w K mg base "_law_end_counts" ["sizes", "starts", "pack"] 3 (C_law_end_counts K) := by
  have sc : FnScope ["sizes", "starts", "pack", "counts", "v", "j"] ["sizes", "starts", "pack"] (defScope (top 63)) := sc_law_end_counts
  refine ok_of [1] T.d_law_end_counts sc (fun fd F => F.bindsN fun _ _ _ _ _ _ us hl => match us, hl with | [_, _, _], _ => rfl) (fun os Q E h => ?_) (fun cdv A outer s H G s0 E os Q1 E1 hr hc wx => ⟨_, _, (b_cons (sSetLc (i := 3) (own := [("v", 4)]) (by show 3 ∉ ([1] : List Nat); decide) wx.calm sc.nd rfl rfl (sw_true rfl rfl rfl (by decide +kernel)) rfl (by show ∀ v ∈ ([4] : List Nat), v ∉ ([1] : List Nat); decide) (by decide) (i_rng1 rfl T.b_range (a_cons (v_len rfl T.b_len (a_cons (vv 0) a_nil)) a_nil)) (blkOk_by (by show blkC ["sizes", "starts", "pack", "counts", "v", "j"] (defScope (top 63)) _ _ = true; decide +kernel)) (fun _ _ _ _ _ => ⟨_, (g_name (i := 4) (by show 4 ∉ ([1] : List Nat); decide) sc.nd rfl (by first | exact Or.inl rfl | exact Or.inr rfl))⟩) (fun _ _ _ _ _ => ⟨_, ts_nil⟩) (fun _ _ _ _ _ => ⟨_, (v_sub (v_ix (vv 2) (vv 4)) (v_ix (vv 0) (vv 4)))⟩))
  (b_cons (s_for wx.po wx.calm (i_rng1 rfl T.b_range (a_cons (v_len rfl T.b_len (a_cons (vv 1) a_nil)) a_nil)) (g_name (i := 5) (by show 5 ∉ ([1] : List Nat); decide) sc.nd rfl (by first | exact Or.inl rfl | exact Or.inr rfl)) (b_one (s_setIx (vv 3) (v_ix (vv 1) (vv 5)) (v_addA (v_ix (vv 3) (v_ix (vv 1) (vv 5))) v_int))))
  (b_one (s_ret (vv 3))))), ?_⟩)
  · obtain ⟨sizes, starts, pack, d1, d3, o2, b1, b3, rfl, _⟩ := h; rfl
  · obtain ⟨sizes, starts, pack, d1, d3, o2, b1, b3, rfl, h1, ho, h3, hn, hp, hs, hx, hq⟩ := hc
    rcases ho with ⟨d2, b2, rfl, h2⟩ | rfl
    · dsimp!
      rw [seq_eq]
      dsimp!
      refine r_lc (e1 := [some (.st d1), some (.st d2), some (.st d3), none, none, none]) (fun m acc e => e = [some (.st d1), some (.st d2), some (.st d3), none, none, none] ∧ acc = ((endc sizes [] pack).take m).map .int) sizes.length _ (fun Q q => by
        simp! [gLenE h1, List.length_map]
        exact ⟨⟨by omega, by omega⟩, by simpa using q⟩) ⟨rfl, rfl⟩ (fun m acc e hm ⟨he, ha⟩ => ?_) fun acc e ⟨he, ha⟩ => ?_
      · subst he ha
        obtain ⟨x, hxx⟩ := get_lt (l := sizes) (m := m) (by omega)
        obtain ⟨y, hy⟩ := get_lt (l := pack) (m := m) (by omega)
        have a1 : atI (sizes.map VL.D.int) (m : Int) = some (.int x) := map_at (by omega) hxx
        have a2 : atI (pack.map VL.D.int) (m : Int) = some (.int y) := map_at (by omega) hy
        have a3 : (endc sizes [] pack)[m]? = some (y - x) := by
          have := endc_get (sizes := sizes) (starts := []) (pack := pack) (y := (m : Int)) (by omega) (by omega)
          rw [show ((m : Nat) : Int).toNat = m from rfl, getD_some hxx, getD_some hy] at this
          rw [this]; simp
        simp! [h1, h3, a1, a2]
        refine ⟨szLt (by rw [List.length_take, endc_len]; omega), ?_⟩
        rw [take_snoc a3, List.map_append]; rfl
      · subst he ha
        rw [show (endc sizes [] pack).take sizes.length = endc sizes [] pack by rw [← endc_len sizes [] pack, List.take_length]]
        simp!
        refine r_for (e1 := [some (.st d1), some (.st d2), some (.st d3), some (.lst (((endc sizes [] pack).map VL.D.int).map .st)), none, none]) (fun m e => ∃ x5, e = [some (.st d1), some (.st d2), some (.st d3), some (.lst (((endc sizes (starts.take m) pack).map VL.D.int).map .st)), none, x5]) starts.length _ (fun Q q => by
          simp! [gLenE h2, List.length_map]
          exact ⟨⟨by omega, by omega⟩, by simpa using q⟩) ⟨none, rfl⟩ (fun m e hm ⟨x5, he⟩ => ?_) fun e ⟨x5, he⟩ => ?_
        · subst he
          obtain ⟨y, hy⟩ := get_lt (l := starts) (m := m) (by omega)
          obtain ⟨y0, y1⟩ := hx y (List.mem_of_getElem? hy)
          have a1 : atI (starts.map VL.D.int) (m : Int) = some (.int y) := map_at (by omega) hy
          have a2 := map_at y0 (endc_get (sizes := sizes) (starts := starts.take m) (pack := pack) y0 y1)
          simp! [h2, a1, a2, endc_len, ixN_pos _ _ y0 y1]
          rw [take_snoc hy, endc_snoc y0 y1]
          exact ⟨_, rfl⟩
        · subst he
          simp! [List.take_length]
          exact hq
    · dsimp!
      rw [seq_eq]
      dsimp!
      refine r_lc (e1 := [some (.st d1), some (.lst ((starts.map VL.D.int).map .st)), some (.st d3), none, none, none]) (fun m acc e => e = [some (.st d1), some (.lst ((starts.map VL.D.int).map .st)), some (.st d3), none, none, none] ∧ acc = ((endc sizes [] pack).take m).map .int) sizes.length _ (fun Q q => by
        simp! [gLenE h1, List.length_map]
        exact ⟨⟨by omega, by omega⟩, by simpa using q⟩) ⟨rfl, rfl⟩ (fun m acc e hm ⟨he, ha⟩ => ?_) fun acc e ⟨he, ha⟩ => ?_
      · subst he ha
        obtain ⟨x, hxx⟩ := get_lt (l := sizes) (m := m) (by omega)
        obtain ⟨y, hy⟩ := get_lt (l := pack) (m := m) (by omega)
        have a1 : atI (sizes.map VL.D.int) (m : Int) = some (.int x) := map_at (by omega) hxx
        have a2 : atI (pack.map VL.D.int) (m : Int) = some (.int y) := map_at (by omega) hy
        have a3 : (endc sizes [] pack)[m]? = some (y - x) := by
          have := endc_get (sizes := sizes) (starts := []) (pack := pack) (y := (m : Int)) (by omega) (by omega)
          rw [show ((m : Nat) : Int).toNat = m from rfl, getD_some hxx, getD_some hy] at this
          rw [this]; simp
        simp! [h1, h3, a1, a2]
        refine ⟨szLt (by rw [List.length_take, endc_len]; omega), ?_⟩
        rw [take_snoc a3, List.map_append]; rfl
      · subst he ha
        rw [show (endc sizes [] pack).take sizes.length = endc sizes [] pack by rw [← endc_len sizes [] pack, List.take_length]]
        simp!
        refine r_for (e1 := [some (.st d1), some (.lst ((starts.map VL.D.int).map .st)), some (.st d3), some (.lst (((endc sizes [] pack).map VL.D.int).map .st)), none, none]) (fun m e => ∃ x5, e = [some (.st d1), some (.lst ((starts.map VL.D.int).map .st)), some (.st d3), some (.lst (((endc sizes (starts.take m) pack).map VL.D.int).map .st)), none, x5]) starts.length _ (fun Q q => by
          simp! [List.length_map]
          exact ⟨⟨by omega, by omega⟩, by simpa using q⟩) ⟨none, rfl⟩ (fun m e hm ⟨x5, he⟩ => ?_) fun e ⟨x5, he⟩ => ?_
        · subst he
          obtain ⟨y, hy⟩ := get_lt (l := starts) (m := m) (by omega)
          obtain ⟨y0, y1⟩ := hx y (List.mem_of_getElem? hy)
          have a1 : atI (starts.map VL.D.int) (m : Int) = some (.int y) := map_at (by omega) hy
          have a2 := map_at y0 (endc_get (sizes := sizes) (starts := starts.take m) (pack := pack) y0 y1)
          simp! [a1, a2, endc_len, ixN_pos _ _ y0 y1]
          rw [take_snoc hy, endc_snoc y0 y1]
          exact ⟨_, rfl⟩
        · subst he
          simp! [List.take_length]
          exact hq
end
end K80
-- W_law_other_row
set_option maxHeartbeats 4000000
namespace K80
open PySem PySem.Spec L2 VL
theorem sc_law_other_row : FnScope ["sizes", "starts", "pack", "counts", "v"] ["sizes", "starts", "pack"] (defScope (top 64)) := ⟨rfl, rfl, rfl, by decide +kernel, rfl, by decide +kernel, by decide +kernel⟩
def C_law_other_row (K : Fr) : Ctr := fun os Q E => ∃ (sizes starts pack : List Int) (d1 d3 : VL.D) (o2 : OD) (b1 b3 : Bool), os = [.st d1, o2, .st d3] ∧ d1.itm = some (b1, sizes.map .int) ∧ SeqO o2 starts ∧ d3.itm = some (b3, pack.map .int) ∧
  sizes.length ≤ 1000 ∧ pack.length = sizes.length ∧ starts.length ≤ 100000 ∧ (∀ x ∈ starts, 0 ≤ x ∧ x < sizes.length) ∧ Q (.lst (((otherP sizes starts pack sizes.length).map VL.D.int).map .st)) os
section
variable {P : Program} {w : World} {K : Fr} {mg : Str → Option Value} {base : Heap}
theorem ok_law_other_row (T : Tx P w K mg base) : Ok P w K mg base "_law_other_row" ["sizes", "starts", "pack"] 4 (C_law_other_row K) := by
  have o_law_end_counts := ok_law_end_counts (P := P) (w := w) (base := base) T
  have sc : FnScope ["sizes", "starts", "pack", "counts", "v"] ["sizes", "starts", "pack"] (defScope (top 64)) := sc_law_other_row
  refine ok_of [1] T.d_law_other_row sc (fun fd F => F.bindsN fun _ _ _ _ _ _ us hl => match us, hl with | [_, _, _], _ => rfl) (fun os Q E h => ?_) (fun cdv A outer s H G s0 E os Q1 E1 hr hc wx => ⟨_, _, (b_cons (s_set (i := 3) (by show 3 ∉ ([1] : List Nat); decide) sc.nd rfl (by first | exact Or.inl rfl | exact Or.inr rfl) (v_callO wx o_law_end_counts (hr.mono (by decide)) rfl (a_cons (vv 0) (a_cons (vv 1) (a_cons (vv 2) a_nil)))))
  (b_one (s_ret (vLc (own := [("v", 4)]) wx.calm sc.nd rfl (by show ∀ v ∈ ([4] : List Nat), v ∉ ([1] : List Nat); decide) (by decide) (i_rng1 rfl T.b_range (a_cons (v_len rfl T.b_len (a_cons (vv 0) a_nil)) a_nil)) (blkOk_by (by show blkC ["sizes", "starts", "pack", "counts", "v"] (defScope (top 64)) _ _ = true; decide +kernel)) (fun _ _ _ _ _ => ⟨_, (g_name (i := 4) (by show 4 ∉ ([1] : List Nat); decide) sc.nd rfl (by first | exact Or.inl rfl | exact Or.inr rfl))⟩) (fun _ _ _ _ _ => ⟨_, (ts_one (t_w (w_and (t_eq hr.units (v_ix (vv 3) (vv 4)) v_int) (w_and1 (t_gt (v_ix (vv 0) (vv 4)) v_int)))))⟩) (fun _ _ _ _ _ => ⟨_, (vv 4)⟩))))), ?_⟩)
  · obtain ⟨sizes, starts, pack, d1, d3, o2, b1, b3, rfl, _⟩ := h; rfl
  · obtain ⟨sizes, starts, pack, d1, d3, o2, b1, b3, rfl, h1, ho, h3, hz, hp, hs, hx, hq⟩ := hc
    have ho' := ho
    rcases ho' with ⟨d2, b2, rfl, h2⟩ | rfl
    · dsimp!
      rw [seq_eq]
      dsimp!
      refine ⟨sizes, starts, pack, d1, d3, _, b1, b3, rfl, h1, ho, h3, hz, hp, hs, hx, ?_⟩
      simp_all!
      have hel := endc_len sizes starts pack
      have hol : ∀ m, (otherP sizes starts pack m).length ≤ m := fun m => by
        unfold otherP
        refine Nat.le_trans (List.length_filter_le _ _) ?_
        rw [List.length_map, List.length_range]; exact Nat.le_refl _
      refine r_lc (e1 := [some (.st d1), some (.st d2), some (.st d3), some (.lst (((endc sizes starts pack).map VL.D.int).map .st)), none]) (fun m acc e => e = [some (.st d1), some (.st d2), some (.st d3), some (.lst (((endc sizes starts pack).map VL.D.int).map .st)), none] ∧ acc = (otherP sizes starts pack m).map .int) sizes.length _ (fun Q q => by
        simp! [gLenE h1, List.length_map]
        exact ⟨⟨by omega, by omega⟩, by simpa using q⟩) ⟨rfl, rfl⟩ (fun m acc e hm ⟨he, ha⟩ => ?_) fun acc e ⟨he, ha⟩ => ?_
      · subst he ha
        have a1 := atI_getD (l := endc sizes starts pack) (m := m) (by omega)
        have a2 := atI_getD (l := sizes) (m := m) hm
        have ol := hol m
        rw [otherP_succ]
        simp! [a1, h1, a2]
        by_cases q1 : (endc sizes starts pack).getD m 0 = 0
        · rw [decide_eq_true q1]
          by_cases q2 : 0 < sizes.getD m 0
          · rw [decide_eq_true q2]
            simp! [List.length_map]
            exact ⟨szLt (by omega), by rw [List.map_append]; rfl⟩
          · rw [decide_eq_false q2]
            simp!
            rw [if_neg (by simp), List.append_nil]
        · rw [decide_eq_false q1]
          simp!
          rw [if_neg (by simp), List.append_nil]
      · subst he ha
        simp!
        exact hq
    · dsimp!
      rw [seq_eq]
      dsimp!
      refine ⟨sizes, starts, pack, d1, d3, _, b1, b3, rfl, h1, ho, h3, hz, hp, hs, hx, ?_⟩
      simp_all!
      have hel := endc_len sizes starts pack
      have hol : ∀ m, (otherP sizes starts pack m).length ≤ m := fun m => by
        unfold otherP
        refine Nat.le_trans (List.length_filter_le _ _) ?_
        rw [List.length_map, List.length_range]; exact Nat.le_refl _
      refine r_lc (e1 := [some (.st d1), some (.lst ((starts.map VL.D.int).map .st)), some (.st d3), some (.lst (((endc sizes starts pack).map VL.D.int).map .st)), none]) (fun m acc e => e = [some (.st d1), some (.lst ((starts.map VL.D.int).map .st)), some (.st d3), some (.lst (((endc sizes starts pack).map VL.D.int).map .st)), none] ∧ acc = (otherP sizes starts pack m).map .int) sizes.length _ (fun Q q => by
        simp! [gLenE h1, List.length_map]
        exact ⟨⟨by omega, by omega⟩, by simpa using q⟩) ⟨rfl, rfl⟩ (fun m acc e hm ⟨he, ha⟩ => ?_) fun acc e ⟨he, ha⟩ => ?_
      · subst he ha
        have a1 := atI_getD (l := endc sizes starts pack) (m := m) (by omega)
        have a2 := atI_getD (l := sizes) (m := m) hm
        have ol := hol m
        rw [otherP_succ]
        simp! [a1, h1, a2]
        by_cases q1 : (endc sizes starts pack).getD m 0 = 0
        · rw [decide_eq_true q1]
          by_cases q2 : 0 < sizes.getD m 0
          · rw [decide_eq_true q2]
            simp! [List.length_map]
            exact ⟨szLt (by omega), by rw [List.map_append]; rfl⟩
          · rw [decide_eq_false q2]
            simp!
            rw [if_neg (by simp), List.append_nil]
        · rw [decide_eq_false q1]
          simp!
          rw [if_neg (by simp), List.append_nil]
      · subst he ha
        simp!
        exact hq
end
end K80
-- W_law_aim_row
set_option maxHeartbeats 4000000
namespace K80
open PySem PySem.Spec L2 VL
theorem sc_law_aim_row : FnScope ["piles", "starts", "sizes", "pile", "follow", "arrow_row", "v"] ["piles", "starts"] (defScope (top 69)) := ⟨rfl, rfl, rfl, by decide +kernel, rfl, by decide +kernel, by decide +kernel⟩
def C_law_aim_row (K : Fr) : Ctr := fun os Q E => ∃ (pss : Piles) (starts : List Int) (d1 : VL.D) (o2 : OD), os = [.st d1, o2] ∧ PilesD d1 pss ∧ SeqO o2 starts ∧
  pss.length ≤ 1000 ∧ NamesOk pss ∧ starts.length ≤ 100000 ∧ (∀ x ∈ starts, InN pss x) ∧ Q (.lst (((aimArr pss starts).map optD).map .st)) os
section
variable {P : Program} {w : World} {K : Fr} {mg : Str → Option Value} {base : Heap}
theorem ok_law_aim_row (T : Tx P w K mg base) : Ok P w K mg base "_law_aim_row" ["piles", "starts"] 5 (C_law_aim_row K) := by
  have o_law_other_row := ok_law_other_row (P := P) (w := w) (base := base) T
  have o_law_pack_of := ok_law_pack_of (P := P) (w := w) (base := base) T
  have sc : FnScope ["piles", "starts", "sizes", "pile", "follow", "arrow_row", "v"] ["piles", "starts"] (defScope (top 69)) := sc_law_aim_row
  refine ok_of [1] T.d_law_aim_row sc (fun fd F => F.bindsN fun _ _ _ _ _ _ us hl => match us, hl with | [_, _], _ => rfl) (fun os Q E h => ?_) (fun cdv A outer s H G s0 E os Q1 E1 hr hc wx => ⟨_, _, (b_cons (sSetLc (i := 2) (own := [("pile", 3)]) (by show 2 ∉ ([1] : List Nat); decide) wx.calm sc.nd rfl rfl (sw_true rfl rfl rfl (by decide +kernel)) rfl (by show ∀ v ∈ ([3] : List Nat), v ∉ ([1] : List Nat); decide) (by decide) (i_seq (vv 0)) (blkOk_by (by show blkC ["piles", "starts", "sizes", "pile", "follow", "arrow_row", "v"] (defScope (top 69)) _ _ = true; decide +kernel)) (fun _ _ _ _ _ => ⟨_, (g_name (i := 3) (by show 3 ∉ ([1] : List Nat); decide) sc.nd rfl (by first | exact Or.inl rfl | exact Or.inr rfl))⟩) (fun _ _ _ _ _ => ⟨_, ts_nil⟩) (fun _ _ _ _ _ => ⟨_, (v_len rfl T.b_len (a_cons (vv 3) a_nil))⟩))
  (b_cons (s_set (i := 4) (by show 4 ∉ ([1] : List Nat); decide) sc.nd rfl (by first | exact Or.inl rfl | exact Or.inr rfl) (v_fz (v_callO wx o_law_other_row (hr.mono (by decide)) rfl (a_cons (v_frz 2 (vv 2)) (a_cons (vv 1) (a_cons (v_fz (v_callO wx o_law_pack_of (hr.mono (by decide)) rfl (a_cons (vv 0) a_nil))) a_nil))))))
  (b_cons (s_set (i := 5) (by show 5 ∉ ([1] : List Nat); decide) sc.nd rfl (by first | exact Or.inl rfl | exact Or.inr rfl) (v_lst a_nil))
  (b_cons (s_for wx.po wx.calm (i_rng1 rfl T.b_range (a_cons (v_len rfl T.b_len (a_cons (vv 0) a_nil)) a_nil)) (g_name (i := 6) (by show 6 ∉ ([1] : List Nat); decide) sc.nd rfl (by first | exact Or.inl rfl | exact Or.inr rfl)) (b_one (s_if (t_in (vv 6) (vv 4)) (b_one (s_app (vv 5) (v_ix (v_ix (vv 0) (vv 6)) (v_neg v_int)))) (b_one (s_app (vv 5) v_non)))))
  (b_one (s_ret (vv 5))))))), ?_⟩)
  · obtain ⟨pss, starts, d1, o2, rfl, _⟩ := h; rfl
  · obtain ⟨pss, starts, d1, o2, rfl, hp1, ho, hz, hn, hs, hx, hq⟩ := hc
    have ho' := ho
    rcases ho' with ⟨d2, b2, rfl, h2⟩ | rfl
    · have hp1' := hp1
      obtain ⟨b1, ds, hd, hr⟩ := hp1'
      have hl := hr.length
      have hsl : (sizesI pss).length = pss.length := by unfold sizesI; rw [List.length_map]
      dsimp!
      rw [seq_eq]
      dsimp!
      refine r_lc (e1 := [some (.st d1), some (.st d2), none, none, none, none, none]) (fun m acc e => e = [some (.st d1), some (.st d2), none, none, none, none, none] ∧ acc = ((sizesI pss).take m).map .int) pss.length (fun i => ds.getD i .non) (fun Q q => by
          simp! [items_itm hd, hl]
          exact q) ⟨rfl, rfl⟩ (fun m acc e hm ⟨he, ha⟩ => ?_) fun acc e ⟨he, ha⟩ => ?_
      · subst he ha
        obtain ⟨ns, hns⟩ := get_lt hm
        obtain ⟨dp, bp, h2, h3⟩ := hr.get hns
        rw [getD_of h2]
        simp! [gLenE h3]
        refine ⟨szLt (by rw [List.length_take]; omega), ?_⟩
        have : (sizesI pss)[m]? = some (ns.length : Int) := by unfold sizesI; rw [List.getElem?_map, hns]; rfl
        rw [take_snoc this, List.map_append]; rfl
      · subst he ha
        rw [List.take_of_length_le (by omega)]
        dsimp!
        rw [seq_eq]
        dsimp!
        refine ⟨pss, d1, rfl, hp1, hz, hn, ?_⟩
        simp_all!
        refine ⟨sizesI pss, starts, tally pss.length pss.flatten, _, _, _, false, false, rfl, rfl, ho, rfl, by omega, by rw [tally_len, hsl], hs, fun x h => by rw [hsl]; exact hx x h, ?_⟩
        simp_all!
        rw [hsl, show otherP (sizesI pss) starts (tally pss.length pss.flatten) pss.length = aimFol pss starts from rfl]
        refine ⟨szOk (by omega), ?_⟩
        refine r_for (e1 := [some (.st d1), some (.st d2), some (.st (.lst ((sizesI pss).map VL.D.int))), none, some (.st (.lst ((aimFol pss starts).map VL.D.int))), some (.lst []), none])
          (fun m e => ∃ x6, e = [some (.st d1), some (.st d2), some (.st (.lst ((sizesI pss).map VL.D.int))), none, some (.st (.lst ((aimFol pss starts).map VL.D.int))), some (.lst ((((aimArr pss starts).take m).map optD).map .st)), x6]) pss.length _ (fun Q q => by
            simp! [gLenE hd, hl]
            exact ⟨⟨by omega, by omega⟩, by simpa using q⟩) ⟨none, rfl⟩ (fun m e hm ⟨x6, he⟩ => ?_) fun e ⟨x6, he⟩ => ?_
        · subst he
          obtain ⟨ns, hns⟩ := get_lt hm
          obtain ⟨dp, bp, g2, g3⟩ := hr.get hns
          have a1 : L2.atI ds (m : Int) = some dp := by rw [atI_pos _ _ (by omega)]; exact g2
          have hal := aimArr_len pss starts
          simp!
          refine ⟨aimFol pss starts, goI_map _, ?_⟩
          rw [take_snoc (aimArr_get (starts := starts) hns)]
          by_cases q : (m : Int) ∈ aimFol pss starts
          · rw [if_pos q]
            simp only [q, decide_true, if_true, if_false]
            have hne : ns ≠ [] := fun z => by
              have h := ((aimFol_mem hm).mp q).2
              unfold sizeAt pileAt at h
              rw [List.getD_eq_getElem?_getD, Int.toNat_natCast, hns, z] at h
              simp at h
            have a2 := atI_last hne
            simp! [hd, a1, g3, a2, List.length_take, List.length_map]
            refine ⟨szLt (by omega), some (.st (.int m)), ?_⟩
            rw [lastD_opt]; simp only [List.map_append]; rfl
          · rw [if_neg q]
            simp only [q, decide_false, if_true, if_false]
            simp! [List.length_take, List.length_map]
            refine ⟨szLt (by omega), some (.st (.int m)), ?_⟩
            simp only [List.map_append]; rfl
        · subst he
          simp!
          rw [List.take_of_length_le (by rw [aimArr_len]; exact Nat.le_refl _)]
          exact hq
    · have hp1' := hp1
      obtain ⟨b1, ds, hd, hr⟩ := hp1'
      have hl := hr.length
      have hsl : (sizesI pss).length = pss.length := by unfold sizesI; rw [List.length_map]
      dsimp!
      rw [seq_eq]
      dsimp!
      refine r_lc (e1 := [some (.st d1), some (.lst ((starts.map VL.D.int).map .st)), none, none, none, none, none]) (fun m acc e => e = [some (.st d1), some (.lst ((starts.map VL.D.int).map .st)), none, none, none, none, none] ∧ acc = ((sizesI pss).take m).map .int) pss.length (fun i => ds.getD i .non) (fun Q q => by
          simp! [items_itm hd, hl]
          exact q) ⟨rfl, rfl⟩ (fun m acc e hm ⟨he, ha⟩ => ?_) fun acc e ⟨he, ha⟩ => ?_
      · subst he ha
        obtain ⟨ns, hns⟩ := get_lt hm
        obtain ⟨dp, bp, h2, h3⟩ := hr.get hns
        rw [getD_of h2]
        simp! [gLenE h3]
        refine ⟨szLt (by rw [List.length_take]; omega), ?_⟩
        have : (sizesI pss)[m]? = some (ns.length : Int) := by unfold sizesI; rw [List.getElem?_map, hns]; rfl
        rw [take_snoc this, List.map_append]; rfl
      · subst he ha
        rw [List.take_of_length_le (by omega)]
        dsimp!
        rw [seq_eq]
        dsimp!
        refine ⟨pss, d1, rfl, hp1, hz, hn, ?_⟩
        simp_all!
        refine ⟨sizesI pss, starts, tally pss.length pss.flatten, _, _, _, false, false, rfl, rfl, ho, rfl, by omega, by rw [tally_len, hsl], hs, fun x h => by rw [hsl]; exact hx x h, ?_⟩
        simp_all!
        rw [hsl, show otherP (sizesI pss) starts (tally pss.length pss.flatten) pss.length = aimFol pss starts from rfl]
        refine ⟨szOk (by omega), ?_⟩
        refine r_for (e1 := [some (.st d1), some (.lst ((starts.map VL.D.int).map .st)), some (.st (.lst ((sizesI pss).map VL.D.int))), none, some (.st (.lst ((aimFol pss starts).map VL.D.int))), some (.lst []), none])
          (fun m e => ∃ x6, e = [some (.st d1), some (.lst ((starts.map VL.D.int).map .st)), some (.st (.lst ((sizesI pss).map VL.D.int))), none, some (.st (.lst ((aimFol pss starts).map VL.D.int))), some (.lst ((((aimArr pss starts).take m).map optD).map .st)), x6]) pss.length _ (fun Q q => by
            simp! [gLenE hd, hl]
            exact ⟨⟨by omega, by omega⟩, by simpa using q⟩) ⟨none, rfl⟩ (fun m e hm ⟨x6, he⟩ => ?_) fun e ⟨x6, he⟩ => ?_
        · subst he
          obtain ⟨ns, hns⟩ := get_lt hm
          obtain ⟨dp, bp, g2, g3⟩ := hr.get hns
          have a1 : L2.atI ds (m : Int) = some dp := by rw [atI_pos _ _ (by omega)]; exact g2
          have hal := aimArr_len pss starts
          simp!
          refine ⟨aimFol pss starts, goI_map _, ?_⟩
          rw [take_snoc (aimArr_get (starts := starts) hns)]
          by_cases q : (m : Int) ∈ aimFol pss starts
          · rw [if_pos q]
            simp only [q, decide_true, if_true, if_false]
            have hne : ns ≠ [] := fun z => by
              have h := ((aimFol_mem hm).mp q).2
              unfold sizeAt pileAt at h
              rw [List.getD_eq_getElem?_getD, Int.toNat_natCast, hns, z] at h
              simp at h
            have a2 := atI_last hne
            simp! [hd, a1, g3, a2, List.length_take, List.length_map]
            refine ⟨szLt (by omega), some (.st (.int m)), ?_⟩
            rw [lastD_opt]; simp only [List.map_append]; rfl
          · rw [if_neg q]
            simp only [q, decide_false, if_true, if_false]
            simp! [List.length_take, List.length_map]
            refine ⟨szLt (by omega), some (.st (.int m)), ?_⟩
            simp only [List.map_append]; rfl
        · subst he
          simp!
          rw [List.take_of_length_le (by rw [aimArr_len]; exact Nat.le_refl _)]
          exact hq
end
end K80
-- W_law_rule
set_option maxHeartbeats 4000000
namespace K80
open PySem PySem.Spec L2 VL
theorem sc_law_rule : FnScope ["piles", "counts", "starts", "v", "ring"] ["piles"] (defScope (top 78)) := ⟨rfl, rfl, rfl, by decide +kernel, rfl, by decide +kernel, by decide +kernel⟩
def C_law_rule (K : Fr) : Ctr := fun os Q E => ∃ (pss : Piles) (d1 : VL.D), os = [.st d1] ∧ PilesD d1 pss ∧ NamesOk pss ∧ pss.length ≤ 1000 ∧ total pss ≤ 1000 ∧
  ∀ rl, ToldR pss rl → Q (.lst ((rl.map VL.D.int).map .st)) os
section
variable {P : Program} {w : World} {K : Fr} {mg : Str → Option Value} {base : Heap}
theorem ok_law_rule (T : Tx P w K mg base) : Ok P w K mg base "_law_rule" ["piles"] 6 (C_law_rule K) := by
  have o_law_pack_of := ok_law_pack_of (P := P) (w := w) (base := base) T
  have o_law_ring_rows := ok_law_ring_rows (P := P) (w := w) (base := base) T
  have o_law_aim_row := ok_law_aim_row (P := P) (w := w) (base := base) T
  have sc : FnScope ["piles", "counts", "starts", "v", "ring"] ["piles"] (defScope (top 78)) := sc_law_rule
  refine ok_of [] T.d_law_rule sc (fun fd F => F.bindsN fun _ _ _ _ _ _ us hl => match us, hl with | [_], _ => rfl) (fun os Q E h => ?_) (fun cdv A outer s H G s0 E os Q1 E1 hr hc wx => ⟨_, _, (b_cons (s_set (i := 1) (by show 1 ∉ ([] : List Nat); decide) sc.nd rfl (by first | exact Or.inl rfl | exact Or.inr rfl) (v_fz (v_callO wx o_law_pack_of (hr.mono (by decide)) rfl (a_cons (vv 0) a_nil))))
  (b_cons (s_set (i := 2) (by show 2 ∉ ([] : List Nat); decide) sc.nd rfl (by first | exact Or.inl rfl | exact Or.inr rfl) (v_lst a_nil))
  (b_cons (s_for wx.po wx.calm (i_rng1 rfl T.b_range (a_cons (v_len rfl T.b_len (a_cons (vv 0) a_nil)) a_nil)) (g_name (i := 3) (by show 3 ∉ ([] : List Nat); decide) sc.nd rfl (by first | exact Or.inl rfl | exact Or.inr rfl)) (b_one (s_set (i := 2) (by show 2 ∉ ([] : List Nat); decide) sc.nd rfl (by first | exact Or.inl rfl | exact Or.inr rfl) (v_addA (vv 2) (v_mulA (v_lst (a_cons (vv 3) a_nil)) (v_max2 wx.calm rfl T.b_max (a_cons v_int (a_cons (v_sub (v_len rfl T.b_len (a_cons (v_ix (vv 0) (vv 3)) a_nil)) (v_ix (vv 1) (vv 3))) a_nil))))))))
  (b_cons (s_for wx.po wx.calm (i_seq (v_callO wx o_law_ring_rows (hr.mono (by decide)) rfl (a_cons (v_fz (v_callO wx o_law_aim_row (hr.mono (by decide)) rfl (a_cons (vv 0) (a_cons (vv 2) a_nil)))) a_nil))) (g_name (i := 4) (by show 4 ∉ ([] : List Nat); decide) sc.nd rfl (by first | exact Or.inl rfl | exact Or.inr rfl)) (b_one (s_app (vv 2) (v_ix (vv 4) v_int))))
  (b_one (s_ret (v_sorted rfl T.b_sorted bt_sorted (a_cons (vv 2) a_nil)))))))), ?_⟩)
  · obtain ⟨pss, d1, rfl, _⟩ := h; rfl
  · obtain ⟨pss, d1, rfl, hp1, hn, hz, ht, hq⟩ := hc
    have hp1' := hp1
    obtain ⟨b1, ds, hd, hr⟩ := hp1'
    have hl := hr.length
    dsimp!
    rw [seq_eq]
    dsimp!
    refine ⟨pss, d1, rfl, hp1, hz, hn, ?_⟩
    simp_all!
    refine ⟨szOk (by omega), ?_⟩
    generalize hT : tally pss.length pss.flatten = T
    refine r_for (e1 := [some (.st d1), some (.st (.lst (T.map VL.D.int))), some (.lst []), none, none])
      (fun m e => ∃ x3, e = [some (.st d1), some (.st (.lst (T.map VL.D.int))), some (.lst (((lackL pss m).map VL.D.int).map .st)), x3, none]) pss.length _ (fun Q q => by
          simp! [gLenE hd, hl]
          exact ⟨⟨by omega, by omega⟩, by simpa using q⟩) ⟨none, rfl⟩ (fun m e hm ⟨x3, he⟩ => ?_) fun e ⟨x3, he⟩ => ?_
    · subst he
      obtain ⟨ns, hns⟩ := get_lt hm
      obtain ⟨dp, bp, g2, g3⟩ := hr.get hns
      have a1 : L2.atI ds (m : Int) = some dp := by rw [atI_pos _ _ (by omega)]; exact g2
      have a2 : L2.atI (T.map VL.D.int) (m : Int) = some (.int ((named pss (m : Int) : Nat))) := by rw [← hT]; exact map_at (by omega) (tally_nat hm)
      have hs := lackL_short pss (m := m + 1) (by omega)
      have e1 : lackL pss (m + 1) = lackL pss m ++ List.replicate ((lackP pss).getD m 0).toNat (m : Int) := rfl
      have e0 : sizeAt pss (m : Int) = ns.length := by
        unfold sizeAt pileAt
        rw [List.getD_eq_getElem?_getD, Int.toNat_natCast, hns]; rfl
      rw [e1, List.length_append, List.length_replicate, lackP_at hm, e0] at hs
      rw [lackP_at hm, e0] at e1
      simp! [hd, a1, a2, gLenE g3, repD_one, List.length_map, List.length_replicate]
      have e2 : (if (ns.length : Int) - (named pss (m : Int) : Nat) > 0 then (ns.length : Int) - (named pss (m : Int) : Nat) else 0) = max 0 ((ns.length : Int) - (named pss (m : Int) : Nat)) := by split <;> omega
      rw [e2]
      have c0 : 0 ≤ max 0 ((ns.length : Int) - (named pss (m : Int) : Nat)) := by omega
      generalize max 0 ((ns.length : Int) - (named pss (m : Int) : Nat)) = c at hs e1 c0 ⊢
      refine ⟨szOk (by omega), ⟨by omega, by omega, szOk (by omega)⟩, szOk (by omega), some (.st (.int m)), ?_⟩
      rw [e1]
      simp only [List.map_append, List.map_replicate]
    · subst he
      dsimp!
      refine ⟨pss, lackL pss pss.length, d1, _, rfl, hp1, SeqO.lst _, hz, hn, by have := lackL_short pss (Nat.le_refl pss.length); omega, fun x h => lackL_mem h, ?_⟩
      simp_all!
      rw [aim_lack]
      refine ⟨_, lackArr pss, rfl, rfl, by rw [lackArr_len]; exact hz, lackArr_ok hn, ?_⟩
      simp_all!
      rw [lackArr_len]
      have hll := lackL_short pss (Nat.le_refl pss.length)
      have hh := lawRings_heads (lackArr pss) pss.length
      have hhl : (lawRings (lackArr pss) pss.length).length ≤ pss.length := by
        have := congrArg List.length hh
        rw [List.length_map] at this
        rw [this]
        unfold lawHeads
        refine Nat.le_trans (List.length_filter_le _ _) ?_
        rw [List.length_map, List.length_range]; exact Nat.le_refl _
      refine ⟨fun m e => ∃ x4, e = [some (.st d1), some (.st (.lst (T.map VL.D.int))), some (.lst (((lackL pss pss.length ++ ((lawRings (lackArr pss) pss.length).take m).map headI).map VL.D.int).map .st)), x3, x4], ⟨none, by rw [List.take_zero, List.map_nil, List.append_nil]⟩, fun m e hm ⟨x4, he⟩ => ?_, fun e ⟨x4, he⟩ => ?_⟩
      · subst he
        obtain ⟨r, hr'⟩ := get_lt (l := lawRings (lackArr pss) pss.length) (m := m) (by simpa using hm)
        have hne : r ≠ [] := by
          have key : ∀ k, ∀ r ∈ lawRings (lackArr pss) k, r ≠ [] := fun k => by
            induction k with
            | zero => intro r h; cases h
            | succ k ih =>
              intro r h
              rcases List.mem_append.mp (show r ∈ lawRings (lackArr pss) k ++ (if isL (lackArr pss) k then [(lawEnd (lackArr pss) k).1] else []) from h) with h | h
              · exact ih r h
              · split at h
                · rw [List.mem_singleton.mp h]; exact (lawEnd_len _ _).1
                · cases h
          exact key _ r (List.mem_of_getElem? hr')
        have a1 : L2.atI (r.map VL.D.int) 0 = some (.int (headI r)) := by
          cases r with
          | nil => exact absurd rfl hne
          | cons y r => rw [atI_pos _ _ (by decide)]; rfl
        rw [getD_tupI hr']
        simp! [itm_tupI r, a1, List.length_map, List.length_append, List.length_take]
        refine ⟨szLt (by omega), some (.st (tupI r)), ?_⟩
        rw [take_snoc hr']
        simp only [List.map_append, List.append_assoc]
        rfl
      · subst he
        rw [List.take_of_length_le (by simp), hh]
        simp!
        refine ⟨_, rfl, fun ns' h1 h2 => hq ns' ⟨h1, h2⟩⟩
end
end K80
-- W_law_run
set_option maxHeartbeats 4000000
namespace K80
open PySem PySem.Spec L2 VL
theorem sc_law_run : FnScope ["piles", "starts", "used", "v", "total", "pile", "log_rows", "stand", "j", "k", "w"] ["piles", "starts"] (defScope (top 68)) := ⟨rfl, rfl, rfl, by decide +kernel, rfl, by decide +kernel, by decide +kernel⟩
def C_law_run (K : Fr) : Ctr := fun os Q E => ∃ (pss : Piles) (starts : List Int) (d1 d2 : VL.D) (b2 : Bool), os = [.st d1, .st d2] ∧ PilesD d1 pss ∧ d2.itm = some (b2, starts.map .int) ∧ NamesOk pss ∧ pss.length ≤ 1000 ∧ total pss ≤ 1000 ∧ starts.length ≤ 1000 ∧ (∀ x ∈ starts, InN pss x) ∧
  Q (.st (.tup [.lst ((runP pss starts).1.map tupI), .lst ((runP pss starts).2.1.map .int), .lst ((runP pss starts).2.2.map .int)])) os
section
variable {P : Program} {w : World} {K : Fr} {mg : Str → Option Value} {base : Heap}
theorem ok_law_run (T : Tx P w K mg base) : Ok P w K mg base "_law_run" ["piles", "starts"] 3 (C_law_run K) := by
  have sc : FnScope ["piles", "starts", "used", "v", "total", "pile", "log_rows", "stand", "j", "k", "w"] ["piles", "starts"] (defScope (top 68)) := sc_law_run
  refine ok_of [] T.d_law_run sc (fun fd F => F.bindsN fun _ _ _ _ _ _ us hl => match us, hl with | [_, _], _ => rfl) (fun os Q E h => ?_) (fun cdv A outer s H G s0 E os Q1 E1 hr hc wx => ⟨_, _, (b_cons (sSetLc (i := 2) (own := [("v", 3)]) (by show 2 ∉ ([] : List Nat); decide) wx.calm sc.nd rfl rfl (sw_true rfl rfl rfl (by decide +kernel)) rfl (by show ∀ v ∈ ([3] : List Nat), v ∉ ([] : List Nat); decide) (by decide) (i_rng1 rfl T.b_range (a_cons (v_len rfl T.b_len (a_cons (vv 0) a_nil)) a_nil)) (blkOk_by (by show blkC ["piles", "starts", "used", "v", "total", "pile", "log_rows", "stand", "j", "k", "w"] (defScope (top 68)) _ _ = true; decide +kernel)) (fun _ _ _ _ _ => ⟨_, (g_name (i := 3) (by show 3 ∉ ([] : List Nat); decide) sc.nd rfl (by first | exact Or.inl rfl | exact Or.inr rfl))⟩) (fun _ _ _ _ _ => ⟨_, ts_nil⟩) (fun _ _ _ _ _ => ⟨_, v_int⟩))
  (b_cons (s_set (i := 4) (by show 4 ∉ ([] : List Nat); decide) sc.nd rfl (by first | exact Or.inl rfl | exact Or.inr rfl) (v_sum wx.calm rfl T.b_sum (a_cons (vLc (own := [("pile", 5)]) wx.calm sc.nd rfl (by show ∀ v ∈ ([5] : List Nat), v ∉ ([] : List Nat); decide) (by decide) (i_seq (vv 0)) (blkOk_by (by show blkC ["piles", "starts", "used", "v", "total", "pile", "log_rows", "stand", "j", "k", "w"] (defScope (top 68)) _ _ = true; decide +kernel)) (fun _ _ _ _ _ => ⟨_, (g_name (i := 5) (by show 5 ∉ ([] : List Nat); decide) sc.nd rfl (by first | exact Or.inl rfl | exact Or.inr rfl))⟩) (fun _ _ _ _ _ => ⟨_, ts_nil⟩) (fun _ _ _ _ _ => ⟨_, (v_len rfl T.b_len (a_cons (vv 5) a_nil))⟩)) a_nil)))
  (b_cons (s_set (i := 6) (by show 6 ∉ ([] : List Nat); decide) sc.nd rfl (by first | exact Or.inl rfl | exact Or.inr rfl) (v_lst a_nil))
  (b_cons (s_set (i := 7) (by show 7 ∉ ([] : List Nat); decide) sc.nd rfl (by first | exact Or.inl rfl | exact Or.inr rfl) (v_lst a_nil))
  (b_cons (s_for wx.po wx.calm (i_rng1 rfl T.b_range (a_cons (v_len rfl T.b_len (a_cons (vv 1) a_nil)) a_nil)) (g_name (i := 8) (by show 8 ∉ ([] : List Nat); decide) sc.nd rfl (by first | exact Or.inl rfl | exact Or.inr rfl)) (b_cons (s_set (i := 3) (by show 3 ∉ ([] : List Nat); decide) sc.nd rfl (by first | exact Or.inl rfl | exact Or.inr rfl) (v_ix (vv 1) (vv 8)))
  (b_cons (s_for wx.po wx.calm (i_rng1 rfl T.b_range (a_cons (v_addA (vv 4) v_int) a_nil)) (g_name (i := 9) (by show 9 ∉ ([] : List Nat); decide) sc.nd rfl (by first | exact Or.inl rfl | exact Or.inr rfl)) (b_cons (s_if (t_ge (v_ix (vv 2) (vv 3)) (v_len rfl T.b_len (a_cons (v_ix (vv 0) (vv 3)) a_nil))) (b_one s_break) b_nil)
  (b_cons (s_set (i := 10) (by show 10 ∉ ([] : List Nat); decide) sc.nd rfl (by first | exact Or.inl rfl | exact Or.inr rfl) (v_ix (v_ix (vv 0) (vv 3)) (v_ix (vv 2) (vv 3))))
  (b_cons (s_setIx (vv 2) (vv 3) (v_addA (v_ix (vv 2) (vv 3)) v_int))
  (b_cons (s_app (vv 6) (v_tup (a_cons (vv 8) (a_cons (vv 3) (a_cons (vv 10) a_nil)))))
  (b_one (s_set (i := 3) (by show 3 ∉ ([] : List Nat); decide) sc.nd rfl (by first | exact Or.inl rfl | exact Or.inr rfl) (vv 10))))))))
  (b_one (s_app (vv 7) (vv 3))))))
  (b_one (s_ret (v_tup (a_cons (v_frz 6 (vv 6)) (a_cons (v_frz 2 (vv 2)) (a_cons (v_frz 7 (vv 7)) a_nil))))))))))), ?_⟩)
  · obtain ⟨pss, starts, d1, d2, b2, rfl, _⟩ := h; rfl
  · obtain ⟨pss, starts, d1, d2, b2, rfl, ⟨b1, ds, hd, hr⟩, hd2, hn, hz1, hz2, hz3, hx, hq⟩ := hc
    have hl := hr.length
    dsimp!
    rw [seq_eq]
    dsimp!
    refine r_lc (e1 := [some (.st d1), some (.st d2), none, none, none, none, none, none, none, none, none]) (fun m acc e => e = [some (.st d1), some (.st d2), none, none, none, none, none, none, none, none, none] ∧ acc = (List.replicate m (0 : Int)).map .int) pss.length _ (fun Q q => by
      simp! [gLenE hd, hl]
      exact ⟨⟨by omega, by omega⟩, by simpa using q⟩) ⟨rfl, rfl⟩ (fun m acc e hm ⟨he, ha⟩ => ?_) fun acc e ⟨he, ha⟩ => ?_
    · subst he ha
      simp!
      refine ⟨szLt (by rw [List.length_replicate]; omega), ?_⟩
      rw [List.map_replicate, ← List.replicate_succ', List.replicate_succ]
    · subst he ha
      dsimp!
      rw [seq_eq]
      dsimp!
      refine r_lc (e1 := [some (.st d1), some (.st d2), some (.lst (((List.replicate pss.length (0 : Int)).map VL.D.int).map .st)), none, none, none, none, none, none, none, none]) (fun m acc e => e = [some (.st d1), some (.st d2), some (.lst (((List.replicate pss.length (0 : Int)).map VL.D.int).map .st)), none, none, none, none, none, none, none, none] ∧ acc = ((pss.take m).map fun ns => (ns.length : Int)).map .int) pss.length (fun i => ds.getD i .non) (fun Q q => by
        simp! [items_itm hd, hl]
        exact q) ⟨rfl, rfl⟩ (fun m acc e hm ⟨he, ha⟩ => ?_) fun acc e ⟨he, ha⟩ => ?_
      · subst he ha
        obtain ⟨ns, hns⟩ := get_lt hm
        obtain ⟨dp, bp, h2, h3⟩ := hr.get hns
        rw [getD_of h2]
        simp! [gLenE h3]
        refine ⟨szLt (by rw [List.length_take]; omega), ?_⟩
        rw [take_snoc hns, List.map_append, List.map_append]; rfl
      · subst he ha
        simp! [List.take_length]
        refine ⟨_, rfl, szOk (by omega), szOk (by omega), ?_⟩
        rw [sum_len pss]
        generalize htot : (((pss.map List.length).sum : Nat) : Int) = tot
        have htot' : tot = (total pss : Nat) := htot.symm
        refine r_for (e1 := [some (.st d1), some (.st d2), some (.lst (((List.replicate pss.length (0 : Int)).map VL.D.int).map .st)), none, some (.st (.int tot)), none, some (.lst []), some (.lst []), none, none, none])
          (fun m e => ∃ x3 x8 x9 x10, e = [some (.st d1), some (.st d2), some (.lst (((runL pss (total pss + 1) 0 (starts.take m) (run0 pss)).2.1.map VL.D.int).map .st)), x3, some (.st (.int tot)), none, some (.lst (((runL pss (total pss + 1) 0 (starts.take m) (run0 pss)).1.map tupI).map .st)), some (.lst (((runL pss (total pss + 1) 0 (starts.take m) (run0 pss)).2.2.map VL.D.int).map .st)), x8, x9, x10]) starts.length _ (fun Q q => by
          simp! [gLenE hd2, List.length_map]
          exact ⟨⟨by omega, by omega⟩, by simpa using q⟩) ⟨none, none, none, none, rfl⟩ (fun m e hm ⟨x3, x8, x9, x10, he⟩ => ?_) fun e ⟨x3, x8, x9, x10, he⟩ => ?_
        · subst he
          obtain ⟨y, hy⟩ := get_lt (l := starts) (m := m) (by omega)
          have hyn := hx y (List.mem_of_getElem? hy)
          have a1 : L2.atI (starts.map VL.D.int) (m : Int) = some (.int y) := map_at (by omega) hy
          obtain ⟨su, ss, sl⟩ := runL_ok (fuel := total pss + 1) hn (starts.take m) 0 (run0 pss) (fun x h => hx x (List.mem_of_mem_take h)) (used_zero pss) (fun x h => nomatch h)
          have ssum := runL_sum (fuel := total pss + 1) hn (starts.take m) 0 (run0 pss) (fun x h => hx x (List.mem_of_mem_take h)) (used_zero pss)
          have snoc := runL_snoc pss (total pss + 1) (starts.take m) 0 (run0 pss) y
          rw [← take_snoc hy, show (0 + (starts.take m).length : Nat) = m by rw [List.length_take]; omega] at snoc
          generalize runL pss (total pss + 1) 0 (starts.take m) (run0 pss) = S at su ss sl ssum snoc ⊢
          obtain ⟨l0, u0, st0⟩ := S
          rw [show (run0 pss).1.length + left pss (run0 pss).2.1 = total pss by rw [show (run0 pss).2.1 = List.replicate pss.length 0 from rfl, left_zero]; exact Nat.zero_add _] at ssum
          rw [show (run0 pss).2.2.length = 0 from rfl, List.length_take] at sl
          simp only [] at su ss sl ssum snoc
          dsimp!
          rw [seq_eq]
          dsimp! [hd2, a1]
          generalize hF : hop pss m (total pss + 1) (l0, u0, y) = F
          refine r_cut (fun e => ∃ x9 x10, e = [some (.st d1), some (.st d2), some (.lst ((F.2.1.map VL.D.int).map .st)), some (.st (.int F.2.2)), some (.st (.int tot)), none, some (.lst ((F.1.map tupI).map .st)), some (.lst ((st0.map VL.D.int).map .st)), some (.st (.int m)), x9, x10]) (fun R hR => ?_) fun e he => ?_
          · refine r_for (e1 := [some (.st d1), some (.st d2), some (.lst ((u0.map VL.D.int).map .st)), some (.st (.int y)), some (.st (.int tot)), none, some (.lst ((l0.map tupI).map .st)), some (.lst ((st0.map VL.D.int).map .st)), some (.st (.int m)), x9, x10])
              (fun k e => ∃ (l : List (List Int)) (u : List Int) (v : Int) (x9 x10 : Option OD), e = [some (.st d1), some (.st d2), some (.lst ((u.map VL.D.int).map .st)), some (.st (.int v)), some (.st (.int tot)), none, some (.lst ((l.map tupI).map .st)), some (.lst ((st0.map VL.D.int).map .st)), some (.st (.int m)), x9, x10] ∧ UsedOk pss u ∧ InN pss v ∧ hop pss m (total pss + 1 - k) (l, u, v) = F ∧ l.length + left pss u = total pss) (total pss + 1) _ (fun Q q => by
              simp!
              exact ⟨⟨by omega, by omega⟩, by simpa [htot'] using q⟩) ⟨l0, u0, y, x9, x10, rfl, su, hyn, hF, ssum⟩ (fun k e hk ⟨l, u, v, x9, x10, he, hu, hv, hop_, hsum⟩ => ?_) fun e ⟨l, u, v, x9, x10, he, hu, hv, hop_, hsum⟩ => ?_
            · subst he
              obtain ⟨dp, bp, h2, h3⟩ := hr.get (pileAt_get hv)
              have a2 : L2.atI ds v = some dp := by rw [atI_pos _ _ hv.1]; exact h2
              have a3 : L2.atI (u.map VL.D.int) v = some (.int (usedAt u v)) := map_at hv.1 (usedAt_get hu.1 hv)
              obtain ⟨u0', u1'⟩ := hu.at hv
              have hul : u.length = pss.length := hu.1
              dsimp!
              rw [seq_eq]
              dsimp! [hd, a2, a3, gLenE h3, List.length_map]
              by_cases q : usedAt u v < (pileAt pss v).length
              · rw [decide_eq_false (by omega)]
                obtain ⟨w', hw⟩ := (next_iff hu hv).mp q
                have a4 : L2.atI ((pileAt pss v).map VL.D.int) (usedAt u v) = some (.int w') := map_at u0' hw
                have a5 : ixN u.length v = some v.toNat := ixN_pos _ _ hv.1 (by have := hv.2; omega)
                simp! [hd, a2, a3, h3, a4, a5]
                have hls := left_step hu hv hw
                refine ⟨szOk (by omega), szLt (by omega), l ++ [[(m : Int), v, w']], u.set v.toNat (usedAt u v + 1), w', some (.st (.int k)), some (.st (.int w')), ?_, hu.step hv hw, next_in hn hv hw, ?_, ?_⟩
                · simp only [List.map_append]; rfl
                · rw [show total pss + 1 - k = (total pss + 1 - (k + 1)) + 1 by omega, hop_step hw] at hop_
                  exact hop_
                · rw [List.length_append, List.length_singleton]; omega
              · rw [decide_eq_true (by omega)]
                simp!
                rw [hop_stop (next_none hu hv q)] at hop_
                rw [← hop_] at hR
                exact hR _ ⟨_, _, rfl⟩
            · subst he
              rw [Nat.sub_self] at hop_
              have hop' : (l, u, v) = F := hop_
              rw [← hop'] at hR
              exact hR _ ⟨_, _, rfl⟩
          · obtain ⟨x9, x10, rfl⟩ := he
            simp!
            have hS : runL pss (total pss + 1) 0 (starts.take (m + 1)) (run0 pss) = (F.1, F.2.1, st0 ++ [F.2.2]) := by
              rw [snoc, ← hF]; rfl
            rw [hS]
            refine ⟨szLt (by omega), some (.st (.int F.2.2)), some (.st (.int m)), x9, x10, ?_⟩
            simp only [List.map_append]
            rfl
        · subst he
          simp! [List.take_length]
          exact ⟨szOk (by omega), hq⟩
end
end K80
-- W_law_takes_all
set_option maxHeartbeats 4000000
namespace K80
open PySem PySem.Spec L2 VL
theorem sc_law_takes_all : FnScope ["piles", "starts", "pile"] ["piles", "starts"] (defScope (top 76)) := ⟨rfl, rfl, rfl, by decide +kernel, rfl, by decide +kernel, by decide +kernel⟩
theorem used_sum : ∀ {pss : Piles} {u : List Int}, u.length = pss.length → (∀ (i : Nat) (p : List Int) (x : Int), pss[i]? = some p → u[i]? = some x → 0 ≤ x ∧ x ≤ p.length) → u.sum + (left pss u : Nat) = (total pss : Nat)
  | [], [], _, _ => rfl
  | p :: ps, x :: u, hl, h => by
    have h0 := h 0 p x rfl rfl
    have ih := used_sum (pss := ps) (u := u) (by simpa using hl) fun i q y h1 h2 => h (i + 1) q y (by simpa using h1) (by simpa using h2)
    show x + u.sum + ((p.length - x.toNat + left ps u : Nat) : Int) = ((p.length + total ps : Nat) : Int)
    omega
def C_law_takes_all (K : Fr) : Ctr := fun os Q E => ∃ (pss : Piles) (starts : List Int) (d1 d2 : VL.D) (b2 : Bool), os = [.st d1, .st d2] ∧ PilesD d1 pss ∧ d2.itm = some (b2, starts.map .int) ∧ NamesOk pss ∧ pss.length ≤ 1000 ∧ total pss ≤ 1000 ∧ starts.length ≤ 1000 ∧ (∀ x ∈ starts, InN pss x) ∧
  Q (.st (.bl (decide ((runP pss starts).1.length = total pss)))) os
section
variable {P : Program} {w : World} {K : Fr} {mg : Str → Option Value} {base : Heap}
theorem ok_law_takes_all (T : Tx P w K mg base) : Ok P w K mg base "_law_takes_all" ["piles", "starts"] 4 (C_law_takes_all K) := by
  have o_law_run := ok_law_run (P := P) (w := w) (base := base) T
  have sc : FnScope ["piles", "starts", "pile"] ["piles", "starts"] (defScope (top 76)) := sc_law_takes_all
  refine ok_of [] T.d_law_takes_all sc (fun fd F => F.bindsN fun _ _ _ _ _ _ us hl => match us, hl with | [_, _], _ => rfl) (fun os Q E h => ?_) (fun cdv A outer s H G s0 E os Q1 E1 hr hc wx => ⟨_, _, (b_one (s_ret (v_eq hr.units (v_sum wx.calm rfl T.b_sum (a_cons (v_ix (v_callO wx o_law_run (hr.mono (by decide)) rfl (a_cons (vv 0) (a_cons (vv 1) a_nil))) v_int) a_nil)) (v_sum wx.calm rfl T.b_sum (a_cons (vLc (own := [("pile", 2)]) wx.calm sc.nd rfl (by show ∀ v ∈ ([2] : List Nat), v ∉ ([] : List Nat); decide) (by decide) (i_seq (vv 0)) (blkOk_by (by show blkC ["piles", "starts", "pile"] (defScope (top 76)) _ _ = true; decide +kernel)) (fun _ _ _ _ _ => ⟨_, (g_name (i := 2) (by show 2 ∉ ([] : List Nat); decide) sc.nd rfl (by first | exact Or.inl rfl | exact Or.inr rfl))⟩) (fun _ _ _ _ _ => ⟨_, ts_nil⟩) (fun _ _ _ _ _ => ⟨_, (v_len rfl T.b_len (a_cons (vv 2) a_nil))⟩)) a_nil))))), ?_⟩)
  · obtain ⟨pss, starts, d1, d2, b2, rfl, _⟩ := h; rfl
  · obtain ⟨pss, starts, d1, d2, b2, rfl, hp1, h2, hn, hz, ht, hs, hx, hq⟩ := hc
    have hp1' := hp1
    obtain ⟨b1, ds, hd, hr⟩ := hp1'
    have hl := hr.length
    dsimp!
    refine ⟨pss, starts, d1, d2, b2, rfl, hp1, h2, hn, hz, ht, hs, hx, ?_⟩
    have hu := (runL_ok (fuel := total pss + 1) hn starts 0 (run0 pss) hx (used_zero pss) (fun x h => nomatch h)).1
    change UsedOk pss (runP pss starts).2.1 at hu
    have hsum := used_sum hu.1 hu.2
    have hleft := runP_left hn hx
    generalize runP pss starts = F at hu hsum hleft hq ⊢
    obtain ⟨F1, F2, F3⟩ := F
    simp only [] at hu hsum hleft hq ⊢
    simp!
    refine ⟨_, rfl, ?_⟩
    refine r_lc (e1 := [some (.st d1), some (.st d2), none]) (fun m acc e => e = [some (.st d1), some (.st d2), none] ∧ acc = ((sizesI pss).take m).map .int) pss.length (fun i => ds.getD i .non) (fun Q q => by
        simp! [items_itm hd, hl]
        exact q) ⟨rfl, rfl⟩ (fun m acc e hm ⟨he, ha⟩ => ?_) fun acc e ⟨he, ha⟩ => ?_
    · subst he ha
      obtain ⟨ns, hns⟩ := get_lt hm
      obtain ⟨dp, bp, h2, h3⟩ := hr.get hns
      rw [getD_of h2]
      simp! [gLenE h3]
      refine ⟨szLt (by rw [List.length_take]; omega), ?_⟩
      have : (sizesI pss)[m]? = some (ns.length : Int) := by unfold sizesI; rw [List.getElem?_map, hns]; rfl
      rw [take_snoc this, List.map_append]; rfl
    · subst he ha
      rw [List.take_of_length_le (by unfold sizesI; rw [List.length_map]; exact Nat.le_refl _)]
      simp!
      have e1 : (sizesI pss).sum = (total pss : Nat) := sum_len pss
      refine ⟨_, rfl, ?_⟩
      simp_all!
      rw [e1]
      have e2 : decide (F2.sum = (total pss : Nat)) = decide (F1.length = total pss) := by
        by_cases q : F1.length = total pss
        · rw [decide_eq_true q, decide_eq_true (by omega)]
        · rw [decide_eq_false q, decide_eq_false (by omega)]
      rw [e2]
      exact hq
end
end K80
-- W_law_least
set_option maxHeartbeats 4000000
namespace K80
open PySem PySem.Spec L2 VL
theorem sc_law_least : FnScope ["piles", "rows", "k", "longer", "row", "w"] ["piles"] (defScope (top 77)) := ⟨rfl, rfl, rfl, by decide +kernel, rfl, by decide +kernel, by decide +kernel⟩
def C_law_least (K : Fr) : Ctr := fun os Q E => ∃ (pss : Piles) (d1 : VL.D) (rl : List Int), os = [.st d1] ∧ PilesD d1 pss ∧ NamesOk pss ∧ pss.length ≤ 4 ∧ total pss ≤ 6 ∧ ToldR pss rl ∧ Q (.st (.int (rl.length : Nat))) os
section
variable {P : Program} {w : World} {K : Fr} {mg : Str → Option Value} {base : Heap}
theorem ok_law_least (T : Tx P w K mg base) : Ok P w K mg base "_law_least" ["piles"] 5 (C_law_least K) := by
  have o_law_takes_all := ok_law_takes_all (P := P) (w := w) (base := base) T
  have sc : FnScope ["piles", "rows", "k", "longer", "row", "w"] ["piles"] (defScope (top 77)) := sc_law_least
  refine ok_of [] T.d_law_least sc (fun fd F => F.bindsN fun _ _ _ _ _ _ us hl => match us, hl with | [_], _ => rfl) (fun os Q E h => ?_) (fun cdv A outer s H G s0 E os Q1 E1 hr hc wx => ⟨_, _, (b_cons (s_set (i := 1) (by show 1 ∉ ([] : List Nat); decide) sc.nd rfl (by first | exact Or.inl rfl | exact Or.inr rfl) (v_lst (a_cons (v_lst a_nil) a_nil)))
  (b_cons (s_for wx.po wx.calm (i_rng1 rfl T.b_range (a_cons v_int a_nil)) (g_name (i := 2) (by show 2 ∉ ([] : List Nat); decide) sc.nd rfl (by first | exact Or.inl rfl | exact Or.inr rfl)) (b_cons (s_set (i := 3) (by show 3 ∉ ([] : List Nat); decide) sc.nd rfl (by first | exact Or.inl rfl | exact Or.inr rfl) (v_lst a_nil))
  (b_cons (s_for wx.po wx.calm (i_seq (v_frz 1 (vv 1))) (g_name (i := 4) (by show 4 ∉ ([] : List Nat); decide) sc.nd rfl (by first | exact Or.inl rfl | exact Or.inr rfl)) (b_cons (s_if (t_val (v_callO wx o_law_takes_all (hr.mono (by decide)) rfl (a_cons (vv 0) (a_cons (vv 4) a_nil)))) (b_one (s_ret (vv 2))) b_nil)
  (b_one (s_for wx.po wx.calm (i_rng1 rfl T.b_range (a_cons (v_len rfl T.b_len (a_cons (vv 0) a_nil)) a_nil)) (g_name (i := 5) (by show 5 ∉ ([] : List Nat); decide) sc.nd rfl (by first | exact Or.inl rfl | exact Or.inr rfl)) (b_one (s_if (t_w (w_or (t_eq hr.units (vv 4) (v_lst a_nil)) (w_or1 (t_ge (vv 5) (v_ix (vv 4) (v_neg v_int)))))) (b_one (s_app (vv 3) (v_addA (vv 4) (v_lst (a_cons (vv 5) a_nil))))) b_nil))))))
  (b_one (s_set (i := 1) (by show 1 ∉ ([] : List Nat); decide) sc.nd rfl (by first | exact Or.inl rfl | exact Or.inr rfl) (v_list rfl T.b_list bt_list (a_cons (vv 3) a_nil)))))))
  (b_one (s_ret (v_neg v_int))))), ?_⟩)
  · obtain ⟨pss, d1, rl, rfl, _⟩ := h; rfl
  · obtain ⟨pss, d1, rl, rfl, hp1, hn, h4, h6, ht, hq⟩ := hc
    have hp1' := hp1
    obtain ⟨b1, ds, hd, hr⟩ := hp1'
    have hl := hr.length
    have hsh := ht.short hn
    simp!
    refine ⟨szOk (by omega), szOk (by omega), ?_⟩
    refine r_for (e1 := [some (.st d1), some (.lst [.lst []]), none, none, none, none])
      (fun m e => ∃ (rows : List (List Int)) (o1 : OD) (x2 x3 x4 x5 : Option OD), e = [some (.st d1), some o1, x2, x3, x4, x5] ∧ frz o1 = .lst (rows.map lstI) ∧ RowsK pss rl m rows ∧ m ≤ rl.length) 8 _ (fun Q q => by
          simp!
          exact ⟨⟨by decide, by decide⟩, q⟩) ⟨[[]], _, none, none, none, none, rfl, rfl, ⟨fun r hr => by rw [List.mem_singleton.mp hr]; exact ⟨rfl, fun x h => nomatch h⟩, fun _ => by simp, by decide⟩, Nat.zero_le _⟩ (fun m e hm ⟨rows, o1, x2, x3, x4, x5, he, ho, hk, hml⟩ => ?_) fun e ⟨rows, o1, x2, x3, x4, x5, he, ho, hk, hml⟩ => ?_
    · subst he
      have hrl : rows.length ≤ 65536 := Nat.le_trans hk.few (Nat.le_trans (Nat.pow_le_pow_right (by decide) (show m ≤ 8 by omega)) (by decide))
      simp!
      refine ⟨szOk (by omega), ?_⟩
      refine r_for (e1 := [some (.st d1), some (.st (.lst (rows.map lstI))), some (.st (.int m)), some (.lst []), x4, x5])
        (fun j e => ∃ x4 x5, e = [some (.st d1), some (.st (.lst (rows.map lstI))), some (.st (.int m)), some (.lst (((((rows.take j).flatMap fun r => ext1 pss r pss.length)).map lstI).map .st)), x4, x5] ∧ ∀ r ∈ rows.take j, (runP pss r).1.length ≠ total pss) rows.length (fun i => (rows.map lstI).getD i .non) (fun Q q => by
          simp! [ho, List.length_map]
          exact q) ⟨x4, x5, rfl, fun r h => nomatch h⟩ (fun j e hj ⟨x4, x5, he, hno⟩ => ?_) fun e ⟨x4, x5, he, hno⟩ => ?_
      · subst he
        obtain ⟨r, hr'⟩ := get_lt hj
        obtain ⟨r1, r2⟩ := hk.inn r (List.mem_of_getElem? hr')
        rw [getD_lstI hr', take_snoc hr', List.flatMap_append, List.flatMap_cons, List.flatMap_nil, List.append_nil]
        have hA : ((rows.take j).flatMap fun r => ext1 pss r pss.length).length ≤ 65536 * 4 := Nat.le_trans (flat_len4 pss h4 _) (by rw [List.length_take]; omega)
        generalize ((rows.take j).flatMap fun r => ext1 pss r pss.length) = A at hA ⊢
        simp!
        refine ⟨pss, r, d1, lstI r, false, rfl, hp1, rfl, hn, by omega, by omega, by omega, r2, ?_⟩
        simp_all!
        by_cases q : (runP pss r).1.length = total pss
        · rw [decide_eq_true q]
          simp!
          have := ht.least hn r2 q
          rw [show (m : Int) = (rl.length : Nat) by omega]
          exact hq
        · rw [decide_eq_false q]
          have hno' : ∀ r' ∈ rows.take j ++ [r], (runP pss r').1.length ≠ total pss := fun r' hr2 => by
            rcases List.mem_append.mp hr2 with z | z
            · exact hno r' z
            · rw [List.mem_singleton.mp z]; exact q
          refine r_for (e1 := [some (.st d1), some (.st (.lst (rows.map lstI))), some (.st (.int m)), some (.lst ((A.map lstI).map .st)), some (.st (lstI r)), x5])
            (fun i e => ∃ x5, e = [some (.st d1), some (.st (.lst (rows.map lstI))), some (.st (.int m)), some (.lst (((A ++ ext1 pss r i).map lstI).map .st)), some (.st (lstI r)), x5]) pss.length _ (fun Q q => by
              simp! [gLenE hd, hl]
              exact ⟨⟨by omega, by omega⟩, q⟩) ⟨x5, by rw [show ext1 pss r 0 = [] from rfl, List.append_nil]⟩ (fun i e hi ⟨x5, he⟩ => ?_) fun e ⟨x5, he⟩ => ?_
          · subst he
            have hel := ext1_len pss r i
            rw [ext1_succ]
            simp!
            refine ⟨szOk (by omega), gEqA_nilL (PyLN.ints 0 r) (by decide) ?_⟩
            simp_all!
            by_cases z : r = []
            · subst z
              simp only [List.map_nil, decide_true, Bool.true_or, if_true]
              simp! [lstI, List.length_append, List.length_map]
              refine ⟨szOk (by omega), szOk (by omega), szLt (by omega), some (.st (.int i)), ?_⟩
              rw [← List.append_assoc]
              simp only [List.map_append]
              rfl
            · rw [decide_eq_false (p := List.map VL.D.int r = []) (by simpa using z), decide_eq_false z]
              have a2 := atI_last z
              have a3 : lastD r = .int (r.getLastD 0) := by
                unfold lastD
                rw [List.getLastD_eq_getLast?, List.getLast?_eq_some_getLast z]; rfl
              rw [a3] at a2
              simp! [itm_lstI, a2, decide_eq_true_eq]
              by_cases z2 : r.getLastD 0 ≤ (i : Int)
              · rw [decide_eq_true z2]
                simp! [lstI, List.length_append, List.length_map]
                refine ⟨szOk (by omega), szOk (by omega), szLt (by omega), some (.st (.int i)), ?_⟩
                rw [if_pos z2, ← List.append_assoc]
                simp only [List.map_append, List.map_cons, List.map_nil, lstI]
              · rw [decide_eq_false z2]
                simp!
                rw [if_neg (by simpa using z2), List.append_nil]
                exact ⟨_, rfl⟩
          · subst he
            exact ⟨_, _, rfl, hno'⟩
      · subst he
        rw [List.take_length] at hno ⊢
        simp!
        refine ⟨_, _, _, _, _, _, rfl, congrArg VL.D.lst (frzL_st _), hk.step h4 ht, ?_⟩
        refine Classical.byContradiction fun z => ?_
        have e1 : rl.take m = rl := List.take_of_length_le (by omega)
        have := hk.has hml
        rw [e1] at this
        exact hno rl this (ht.takes hn)
    · subst he
      omega
end
end K80
-- W_law_same_leaf
set_option maxHeartbeats 4000000
namespace K80
open PySem PySem.Spec L2 VL
theorem sc_law_same_leaf : FnScope ["actual", "due"] ["actual", "due"] (defScope (top 66)) := ⟨rfl, rfl, rfl, by decide +kernel, rfl, by decide +kernel, by decide +kernel⟩
def C_law_same_leaf (K : Fr) : Ctr := fun os Q E => ∃ d : VL.D, os = [.st d, .st d] ∧ LeafD d ∧ Q (.st (.bl true)) os
section
variable {P : Program} {w : World} {K : Fr} {mg : Str → Option Value} {base : Heap}
theorem ok_law_same_leaf (T : Tx P w K mg base) : Ok P w K mg base "_law_same_leaf" ["actual", "due"] 3 (C_law_same_leaf K) := by
  have sc : FnScope ["actual", "due"] ["actual", "due"] (defScope (top 66)) := sc_law_same_leaf
  refine ok_of [] T.d_law_same_leaf sc (fun fd F => F.bindsN fun _ _ _ _ _ _ us hl => match us, hl with | [_, _], _ => rfl) (fun os Q E h => ?_) (fun cdv A outer s H G s0 E os Q1 E1 hr hc wx => ⟨_, _, (b_cons (s_if (t_isN (vv 1) v_non) (b_one (s_ret (v_isN (vv 0) v_non))) b_nil)
  (b_cons (s_if (t_val (v_isi rfl T.b_isinstance (a_cons (vv 1) (a_cons (v_ty rfl T.b_bool bt_bool) a_nil)))) (b_one (s_ret (v_and (v_isi rfl T.b_isinstance (a_cons (vv 0) (a_cons (v_ty rfl T.b_bool bt_bool) a_nil))) (v_one (v_eq hr.units (vv 0) (vv 1)))))) b_nil)
  (b_cons (s_if (t_val (v_isi rfl T.b_isinstance (a_cons (vv 1) (a_cons (v_ty rfl T.b_int bt_int) a_nil)))) (b_one (s_ret (v_and (v_isi rfl T.b_isinstance (a_cons (vv 0) (a_cons (v_ty rfl T.b_int bt_int) a_nil))) (v_and (v_not (v_isi rfl T.b_isinstance (a_cons (vv 0) (a_cons (v_ty rfl T.b_bool bt_bool) a_nil)))) (v_one (v_eq hr.units (vv 0) (vv 1))))))) b_nil)
  (b_cons (s_if (t_val (v_isi rfl T.b_isinstance (a_cons (vv 1) (a_cons (v_ty rfl T.b_str bt_str) a_nil)))) (b_one (s_ret (v_and (v_isi rfl T.b_isinstance (a_cons (vv 0) (a_cons (v_ty rfl T.b_str bt_str) a_nil))) (v_one (v_eq hr.units (vv 0) (vv 1)))))) b_nil)
  (b_one (s_ret v_bl)))))), ?_⟩)
  · obtain ⟨d, rfl, _⟩ := h; rfl
  · obtain ⟨d, rfl, hd, hq⟩ := hc
    cases hd with
    | non =>
      simp!
      exact hq
    | bl b =>
      simp! [isNonD]
      refine ⟨"bool", true, rfl, rfl, ?_⟩
      simp!
      refine ⟨"bool", true, rfl, rfl, ?_⟩
      simp!
      simpa using hq
    | int i =>
      simp!
      refine ⟨"int", false, rfl, rfl, ?_⟩
      simp!
      refine ⟨"int", true, rfl, rfl, ?_⟩
      simp!
      refine ⟨"int", true, rfl, rfl, ?_⟩
      simp!
      refine ⟨"int", false, rfl, rfl, ?_⟩
      simp!
      simpa using hq
    | str x =>
      simp! [isNonD]
      refine ⟨"str", false, rfl, rfl, ?_⟩
      simp!
      refine ⟨"str", false, rfl, rfl, ?_⟩
      simp!
      refine ⟨"str", true, rfl, rfl, ?_⟩
      simp!
      refine ⟨"str", true, rfl, rfl, ?_⟩
      simp!
      simpa using hq
end
end K80
-- W_law_same
set_option maxHeartbeats 4000000
namespace K80
open PySem PySem.Spec L2 VL
theorem sc_law_same : FnScope ["actual", "due", "pairs", "level", "deeper", "pair", "k"] ["actual", "due"] (defScope (top 65)) := ⟨rfl, rfl, rfl, by decide +kernel, rfl, by decide +kernel, by decide +kernel⟩
def C_law_same (K : Fr) : Ctr := fun os Q E => ∃ d : VL.D, os = [.st d, .st d] ∧ SameOk d ∧ Q (.st (.bl true)) os
section
variable {P : Program} {w : World} {K : Fr} {mg : Str → Option Value} {base : Heap}
theorem ok_law_same (T : Tx P w K mg base) : Ok P w K mg base "_law_same" ["actual", "due"] 4 (C_law_same K) := by
  have o_law_same_leaf := ok_law_same_leaf (P := P) (w := w) (base := base) T
  have sc : FnScope ["actual", "due", "pairs", "level", "deeper", "pair", "k"] ["actual", "due"] (defScope (top 65)) := sc_law_same
  refine ok_of [] T.d_law_same sc (fun fd F => F.bindsN fun _ _ _ _ _ _ us hl => match us, hl with | [_, _], _ => rfl) (fun os Q E h => ?_) (fun cdv A outer s H G s0 E os Q1 E1 hr hc wx => ⟨_, _, (b_cons (s_set (i := 2) (by show 2 ∉ ([] : List Nat); decide) sc.nd rfl (by first | exact Or.inl rfl | exact Or.inr rfl) (v_lst (a_cons (v_tup (a_cons (vv 0) (a_cons (vv 1) a_nil))) a_nil)))
  (b_cons (s_for wx.po wx.calm (i_rng1 rfl T.b_range (a_cons v_int a_nil)) (g_name (i := 3) (by show 3 ∉ ([] : List Nat); decide) sc.nd rfl (by first | exact Or.inl rfl | exact Or.inr rfl)) (b_cons (s_set (i := 4) (by show 4 ∉ ([] : List Nat); decide) sc.nd rfl (by first | exact Or.inl rfl | exact Or.inr rfl) (v_lst a_nil))
  (b_cons (s_for wx.po wx.calm (i_seq (v_frz 2 (vv 2))) (g_name (i := 5) (by show 5 ∉ ([] : List Nat); decide) sc.nd rfl (by first | exact Or.inl rfl | exact Or.inr rfl)) (b_one (s_if (t_w (w_or (t_val (v_isi rfl T.b_isinstance (a_cons (v_ix (vv 5) v_int) (a_cons (v_ty rfl T.b_tuple bt_tuple) a_nil)))) (w_or1 (t_val (v_isi rfl T.b_isinstance (a_cons (v_ix (vv 5) v_int) (a_cons (v_ty rfl T.b_list bt_list) a_nil))))))) (b_cons (s_if (t_ne hr.units (v_isi rfl T.b_isinstance (a_cons (v_ix (vv 5) v_int) (a_cons (v_ty rfl T.b_tuple bt_tuple) a_nil))) (v_isi rfl T.b_isinstance (a_cons (v_ix (vv 5) v_int) (a_cons (v_ty rfl T.b_tuple bt_tuple) a_nil)))) (b_one (s_ret v_bl)) b_nil)
  (b_cons (s_if (t_ne hr.units (v_isi rfl T.b_isinstance (a_cons (v_ix (vv 5) v_int) (a_cons (v_ty rfl T.b_list bt_list) a_nil))) (v_isi rfl T.b_isinstance (a_cons (v_ix (vv 5) v_int) (a_cons (v_ty rfl T.b_list bt_list) a_nil)))) (b_one (s_ret v_bl)) b_nil)
  (b_cons (s_if (t_ne hr.units (v_len rfl T.b_len (a_cons (v_ix (vv 5) v_int) a_nil)) (v_len rfl T.b_len (a_cons (v_ix (vv 5) v_int) a_nil))) (b_one (s_ret v_bl)) b_nil)
  (b_one (s_for wx.po wx.calm (i_rng1 rfl T.b_range (a_cons (v_len rfl T.b_len (a_cons (v_ix (vv 5) v_int) a_nil)) a_nil)) (g_name (i := 6) (by show 6 ∉ ([] : List Nat); decide) sc.nd rfl (by first | exact Or.inl rfl | exact Or.inr rfl)) (b_one (s_app (vv 4) (v_tup (a_cons (v_ix (v_ix (vv 5) v_int) (vv 6)) (a_cons (v_ix (v_ix (vv 5) v_int) (vv 6)) a_nil)))))))))) (b_one (s_if (t_not (t_val (v_callO wx o_law_same_leaf (hr.mono (by decide)) rfl (a_cons (v_ix (vv 5) v_int) (a_cons (v_ix (vv 5) v_int) a_nil))))) (b_one (s_ret v_bl)) b_nil)))))
  (b_one (s_set (i := 2) (by show 2 ∉ ([] : List Nat); decide) sc.nd rfl (by first | exact Or.inl rfl | exact Or.inr rfl) (v_list rfl T.b_list bt_list (a_cons (vv 4) a_nil)))))))
  (b_one (s_ret (v_eq hr.units (v_len rfl T.b_len (a_cons (vv 2) a_nil)) v_int))))), ?_⟩)
  · obtain ⟨d, rfl, _⟩ := h; rfl
  · obtain ⟨d, rfl, hd, hq⟩ := hc
    simp!
    refine ⟨szOk (by omega), szOk (by omega), ?_⟩
    refine r_for (e1 := [some (.st d), some (.st d), some (.lst [.st (prD d)]), none, none, none, none])
      (fun m e => ∃ x3 x4 x5 x6, e = [some (.st d), some (.st d), some (.lst (((lvlN d m).map prD).map .st)), x3, x4, x5, x6]) 9 _ (fun Q q => by
          simp!
          exact ⟨⟨by decide, by decide⟩, q⟩) ⟨none, none, none, none, rfl⟩ (fun m e hm ⟨x3, x4, x5, x6, he⟩ => ?_) fun e ⟨x3, x4, x5, x6, he⟩ => ?_
    · subst he
      simp!
      refine ⟨szOk (by omega), ?_⟩
      have hl := hd.few m (by omega)
      have hpl := hd.pl m (by omega)
      have hl1 := hd.few (m + 1) (by omega)
      have e1 : lvlN d (m + 1) = (lvlN d m).flatMap kids := rfl
      generalize lvlN d m = l at hl hpl e1 ⊢
      generalize hl2 : lvlN d (m + 1) = l2 at hl1 e1 ⊢
      refine r_for (e1 := [some (.st d), some (.st d), some (.st (.lst (l.map prD))), some (.st (.int m)), some (.lst []), x5, x6])
        (fun k e => ∃ x5 x6, e = [some (.st d), some (.st d), some (.st (.lst (l.map prD))), some (.st (.int m)), some (.lst ((((l.take k).flatMap kids).map prD).map .st)), x5, x6]) l.length (fun i => (l.map prD).getD i .non) (fun Q q => by
          simp! [List.length_map]
          exact q) ⟨x5, x6, rfl⟩ (fun k e hk ⟨x5, x6, he⟩ => ?_) fun e ⟨x5, x6, he⟩ => ?_
      · subst he
        obtain ⟨x, hx⟩ := get_lt hk
        have hgx : (l.map prD).getD k .non = prD x := getD_of (by rw [List.getElem?_map, hx]; rfl)
        have hk1 : (l.take (k + 1)).flatMap kids = (l.take k).flatMap kids ++ kids x := by rw [take_snoc hx, List.flatMap_append]; simp
        have hlk : ((l.take k).flatMap kids ++ kids x).length ≤ l2.length := by
          rw [← hk1, e1]
          have h3 : (l.take (k + 1)).flatMap kids ++ (l.drop (k + 1)).flatMap kids = l.flatMap kids := by rw [← List.flatMap_append, List.take_append_drop]
          rw [← h3, List.length_append]; omega
        rw [hgx, hk1]
        generalize (l.take k).flatMap kids = A at hlk ⊢
        rw [List.length_append] at hlk
        have seq : ∀ ds : List VL.D, kids x = ds → ∀ (e : En), e = [some (.st d), some (.st d), some (.st (.lst (l.map prD))), some (.st (.int m)), some (.lst ((A.map prD).map .st)), some (.st (prD x)), x6] → True := fun _ _ _ _ => trivial
        cases hpl x (List.mem_of_getElem? hx) with
        | non =>
          simp! [prD]
          refine ⟨"NoneType", false, rfl, rfl, ?_⟩
          simp!
          refine ⟨"NoneType", false, rfl, rfl, ?_⟩
          simp!
          refine ⟨_, rfl, .non, ?_⟩
          simp_all!
          rw [show A ++ kids VL.D.non = A from List.append_nil A]
          exact ⟨_, _, rfl⟩
        | bl b =>
          simp! [prD]
          refine ⟨"bool", false, rfl, rfl, ?_⟩
          simp!
          refine ⟨"bool", false, rfl, rfl, ?_⟩
          simp!
          refine ⟨_, rfl, .bl b, ?_⟩
          simp_all!
          rw [show A ++ kids (VL.D.bl b) = A from List.append_nil A]
          exact ⟨_, _, rfl⟩
        | int i =>
          simp! [prD]
          refine ⟨"int", false, rfl, rfl, ?_⟩
          simp!
          refine ⟨"int", false, rfl, rfl, ?_⟩
          simp!
          refine ⟨_, rfl, .int i, ?_⟩
          simp_all!
          rw [show A ++ kids (VL.D.int i) = A from List.append_nil A]
          exact ⟨_, _, rfl⟩
        | str z =>
          simp! [prD]
          refine ⟨"str", false, rfl, rfl, ?_⟩
          simp!
          refine ⟨"str", false, rfl, rfl, ?_⟩
          simp!
          refine ⟨_, rfl, .str z, ?_⟩
          simp_all!
          rw [show A ++ kids (VL.D.str z) = A from List.append_nil A]
          exact ⟨_, _, rfl⟩
        | tup ds =>
          simp! [prD]
          refine ⟨"tuple", true, rfl, rfl, ?_⟩
          simp!
          refine ⟨"tuple", true, rfl, rfl, "tuple", true, rfl, rfl, "tuple", false, rfl, rfl, "tuple", false, rfl, rfl, ?_⟩
          rw [show kids (VL.D.tup ds) = ds from rfl] at hlk
          refine r_for (e1 := [some (.st d), some (.st d), some (.st (.lst (l.map prD))), some (.st (.int m)), some (.lst ((A.map prD).map .st)), some (.st (prD (.tup ds))), x6])
            (fun j e => ∃ x6, e = [some (.st d), some (.st d), some (.st (.lst (l.map prD))), some (.st (.int m)), some (.lst (((A ++ ds.take j).map prD).map .st)), some (.st (prD (.tup ds))), x6]) ds.length _ (fun Q q => by
              simp! [prD]
              exact ⟨⟨by omega, by omega⟩, q⟩) ⟨x6, by rw [List.take_zero, List.append_nil]⟩ (fun j e hj ⟨x6, he⟩ => ?_) fun e ⟨x6, he⟩ => ?_
          · subst he
            obtain ⟨y, hy⟩ := get_lt hj
            have a1 : L2.atI ds (j : Int) = some y := by rw [atI_pos _ _ (by omega)]; exact hy
            simp! [prD, a1, List.length_map, List.length_append, List.length_take]
            refine ⟨szOk (by omega), szLt (by omega), some (.st (.int j)), ?_⟩
            rw [take_snoc hy, ← List.append_assoc]
            simp only [List.map_append]
            rfl
          · subst he
            simp_all!
            rw [List.take_length]
            exact ⟨_, _, rfl⟩
        | lst ds =>
          simp! [prD]
          refine ⟨"list", false, rfl, rfl, ?_⟩
          simp!
          refine ⟨"list", true, rfl, rfl, ?_⟩
          simp!
          refine ⟨"list", false, rfl, rfl, "list", false, rfl, rfl, "list", true, rfl, rfl, "list", true, rfl, rfl, ?_⟩
          rw [show kids (VL.D.lst ds) = ds from rfl] at hlk
          refine r_for (e1 := [some (.st d), some (.st d), some (.st (.lst (l.map prD))), some (.st (.int m)), some (.lst ((A.map prD).map .st)), some (.st (prD (.lst ds))), x6])
            (fun j e => ∃ x6, e = [some (.st d), some (.st d), some (.st (.lst (l.map prD))), some (.st (.int m)), some (.lst (((A ++ ds.take j).map prD).map .st)), some (.st (prD (.lst ds))), x6]) ds.length _ (fun Q q => by
              simp! [prD]
              exact ⟨⟨by omega, by omega⟩, q⟩) ⟨x6, by rw [List.take_zero, List.append_nil]⟩ (fun j e hj ⟨x6, he⟩ => ?_) fun e ⟨x6, he⟩ => ?_
          · subst he
            obtain ⟨y, hy⟩ := get_lt hj
            have a1 : L2.atI ds (j : Int) = some y := by rw [atI_pos _ _ (by omega)]; exact hy
            simp! [prD, a1, List.length_map, List.length_append, List.length_take]
            refine ⟨szOk (by omega), szLt (by omega), some (.st (.int j)), ?_⟩
            rw [take_snoc hy, ← List.append_assoc]
            simp only [List.map_append]
            rfl
          · subst he
            simp_all!
            rw [List.take_length]
            exact ⟨_, _, rfl⟩
      · subst he
        simp! [List.take_length]
        rw [e1]
        exact ⟨_, _, _, _, rfl⟩
    · subst he
      rw [hd.fin]
      simp!
      exact hq
end
end K80
-- W_law_told
set_option maxHeartbeats 4000000
namespace K80
open PySem PySem.Spec L2 VL
theorem sc_law_told : FnScope ["told", "flag", "due"] ["told", "flag", "due"] (defScope (top 75)) := ⟨rfl, rfl, rfl, by decide +kernel, rfl, by decide +kernel, by decide +kernel⟩
def C_law_told (K : Fr) : Ctr := fun os Q E => ∃ (f : Int) (d : VL.D), os = [.st (.tup [.int f, d]), .st (.int f), .st d] ∧ SameOk d ∧ Q (.st (.bl true)) os
section
variable {P : Program} {w : World} {K : Fr} {mg : Str → Option Value} {base : Heap}
theorem ok_law_told (T : Tx P w K mg base) : Ok P w K mg base "_law_told" ["told", "flag", "due"] 5 (C_law_told K) := by
  have o_law_same := ok_law_same (P := P) (w := w) (base := base) T
  have sc : FnScope ["told", "flag", "due"] ["told", "flag", "due"] (defScope (top 75)) := sc_law_told
  refine ok_of [] T.d_law_told sc (fun fd F => F.bindsN fun _ _ _ _ _ _ us hl => match us, hl with | [_, _, _], _ => rfl) (fun os Q E h => ?_) (fun cdv A outer s H G s0 E os Q1 E1 hr hc wx => ⟨_, _, (b_one (s_ret (v_and (v_eq hr.units (v_ix (vv 0) v_int) (vv 1)) (v_one (v_callO wx o_law_same (hr.mono (by decide)) rfl (a_cons (v_ix (vv 0) v_int) (a_cons (vv 2) a_nil))))))), ?_⟩)
  · obtain ⟨f, d, rfl, _⟩ := h; rfl
  · obtain ⟨f, d, rfl, hs, hq⟩ := hc
    simp!
    simp only [decide_true]
    refine ⟨d, rfl, hs, ?_⟩
    simp_all!
    exact hq
end
end K80
-- W_check_count
set_option maxHeartbeats 4000000
namespace K80
open PySem PySem.Spec L2 VL
theorem sc_check_count : FnScope ["n"] ["n"] (defScope (top 36)) := ⟨rfl, rfl, rfl, by decide +kernel, rfl, by decide +kernel, by decide +kernel⟩
def C_check_count (K : Fr) : Ctr := fun os Q E => ∃ n : Int, os = [.st (.int n)] ∧ (1 ≤ n ∧ n ≤ 40 → Q (.st .non) os) ∧ (n < 1 → E (He.ga K "Empty") [("what", .str "stations")] os) ∧ (40 < n → E (He.ga K "TooMany") [("limit", .int 40), ("what", .str "stations")] os)
section
variable {P : Program} {w : World} {K : Fr} {mg : Str → Option Value} {base : Heap}
theorem ok_check_count (T : Tx P w K mg base) : Ok P w K mg base "check_count" ["n"] 3 (C_check_count K) := by
  have sc : FnScope ["n"] ["n"] (defScope (top 36)) := sc_check_count
  refine ok_of [] T.d_check_count sc (fun fd F => F.bindsN fun _ _ _ _ _ _ us hl => match us, hl with | [_], _ => rfl) (fun os Q E h => ?_) (fun cdv A outer s H G s0 E os Q1 E1 hr hc wx => ⟨_, _, (b_cons (s_if (t_lt (vv 0) v_int) (b_one (s_raise1 wx T.x_Empty (hr.mono (by decide)) rfl (a_cons v_str a_nil))) b_nil)
  (b_one (s_if (t_gt (vv 0) (v_con T.cr_Deal T.cv_Deal_STATIONS.choose_spec Sc.int (v_cls rfl T.m_Deal))) (b_one (s_raise2 wx T.x_TooMany (hr.mono (by decide)) rfl (a_cons v_str (a_cons (v_con T.cr_Deal T.cv_Deal_STATIONS.choose_spec Sc.int (v_cls rfl T.m_Deal)) a_nil)))) b_nil))), ?_⟩)
  · obtain ⟨n, rfl, _⟩ := h; rfl
  · obtain ⟨n, rfl, h1, h2, h3⟩ := hc
    simp!
    by_cases a : n < 1
    · simp only [a, decide_true]
      exact h2 a
    · by_cases b : 40 < n
      · simp only [a, b, decide_true, decide_false]
        exact h3 b
      · simp only [a, b, decide_false]
        exact h1 (by omega)
end
end K80
-- W_check_station
set_option maxHeartbeats 4000000
namespace K80
open PySem PySem.Spec L2 VL
theorem sc_check_station : FnScope ["n", "v"] ["n", "v"] (defScope (top 35)) := ⟨rfl, rfl, rfl, by decide +kernel, rfl, by decide +kernel, by decide +kernel⟩
def C_check_station (K : Fr) : Ctr := fun os Q E => ∃ n v : Int, os = [.st (.int n), .st (.int v)] ∧ (0 ≤ v ∧ v < n → Q (.st .non) os) ∧ (¬ (0 ≤ v ∧ v < n) → E (He.ga K "BadStation") [("station", .int v)] os)
section
variable {P : Program} {w : World} {K : Fr} {mg : Str → Option Value} {base : Heap}
theorem ok_check_station (T : Tx P w K mg base) : Ok P w K mg base "check_station" ["n", "v"] 3 (C_check_station K) := by
  have sc : FnScope ["n", "v"] ["n", "v"] (defScope (top 35)) := sc_check_station
  refine ok_of [] T.d_check_station sc (fun fd F => F.bindsN fun _ _ _ _ _ _ us hl => match us, hl with | [_, _], _ => rfl) (fun os Q E h => ?_) (fun cdv A outer s H G s0 E os Q1 E1 hr hc wx => ⟨_, _, (b_one (s_if (t_w (w_or (t_lt (vv 1) v_int) (w_or1 (t_ge (vv 1) (vv 0))))) (b_one (s_raise1 wx T.x_BadStation (hr.mono (by decide)) rfl (a_cons (vv 1) a_nil))) b_nil)), ?_⟩)
  · obtain ⟨n, v, rfl, _⟩ := h; rfl
  · obtain ⟨n, v, rfl, h1, h2⟩ := hc
    simp!
    by_cases a : v < 0
    · simp only [a, decide_true]
      exact h2 (by omega)
    · by_cases b : n ≤ v
      · simp only [a, b, decide_true, decide_false]
        exact h2 (by omega)
      · simp only [a, b, decide_false]
        exact h1 (by omega)
end
end K80
-- W_check_pile
set_option maxHeartbeats 4000000
namespace K80
open PySem PySem.Spec L2 VL
theorem sc_check_pile : FnScope ["n", "pile", "slip"] ["n", "pile"] (defScope (top 37)) := ⟨rfl, rfl, rfl, by decide +kernel, rfl, by decide +kernel, by decide +kernel⟩
def C_check_pile (K : Fr) : Ctr := fun os Q E => ∃ (n : Int) (b : Bool) (ns : List Int) (d : VL.D), os = [.st (.int n), .st d] ∧ d.itm = some (b, ns.map .int) ∧ res K E os (Q (.st .non) os) (chkRow n 60 .pile ns)
section
variable {P : Program} {w : World} {K : Fr} {mg : Str → Option Value} {base : Heap}
theorem ok_check_pile (T : Tx P w K mg base) : Ok P w K mg base "check_pile" ["n", "pile"] 4 (C_check_pile K) := by
  have o_check_station := ok_check_station (P := P) (w := w) (base := base) T
  have sc : FnScope ["n", "pile", "slip"] ["n", "pile"] (defScope (top 37)) := sc_check_pile
  refine ok_of [] T.d_check_pile sc (fun fd F => F.bindsN fun _ _ _ _ _ _ us hl => match us, hl with | [_, _], _ => rfl) (fun os Q E h => ?_) (fun cdv A outer s H G s0 E os Q1 E1 hr hc wx => ⟨_, _, (b_cons (s_if (t_gt (v_len rfl T.b_len (a_cons (vv 1) a_nil)) (v_con T.cr_Deal T.cv_Deal_PILE.choose_spec Sc.int (v_cls rfl T.m_Deal))) (b_one (s_raise2 wx T.x_TooMany (hr.mono (by decide)) rfl (a_cons v_str (a_cons (v_con T.cr_Deal T.cv_Deal_PILE.choose_spec Sc.int (v_cls rfl T.m_Deal)) a_nil)))) b_nil)
  (b_one (s_for wx.po wx.calm (i_seq (vv 1)) (g_name (i := 2) (by show 2 ∉ ([] : List Nat); decide) sc.nd rfl (by first | exact Or.inl rfl | exact Or.inr rfl)) (b_one (s_expr (v_callO wx o_check_station (hr.mono (by decide)) rfl (a_cons (vv 0) (a_cons (vv 2) a_nil)))))))), ?_⟩)
  · obtain ⟨n, b, ns, d, rfl, _⟩ := h; rfl
  · obtain ⟨n, b, ns, d, rfl, hd, hq⟩ := hc
    simp! [gLenE hd, List.length_map]
    unfold chkRow at hq
    by_cases a : 60 < ns.length
    · rw [decide_eq_true (by omega)]
      rw [if_pos a] at hq
      exact hq
    · rw [decide_eq_false (by omega)]
      rw [if_neg a] at hq
      simp! [sFor, items_itm hd]
      refine ⟨fun m e => ∃ x, e = [some (.st (.int n)), some (.st d), x] ∧ ∀ (j : Nat) (y : Int), j < m → ns[j]? = some y → okI n y = true, ⟨none, rfl, fun j y h => absurd h (by omega)⟩, fun m e hm ⟨x, he, hI⟩ => ?_, fun e ⟨x, he, hI⟩ => ?_⟩
      · subst he
        obtain ⟨y, hy⟩ := get_lt hm
        rw [getD_int hy]
        simp!
        refine ⟨n, y, rfl, fun hv => ?_, fun hv => ?_⟩
        · simp_all!
          refine ⟨_, rfl, fun j z hj hz => ?_⟩
          by_cases ej : j = m
          · subst ej; rw [hy] at hz; cases hz; exact okI_iff.mpr hv
          · exact hI j z (by omega) hz
        · simp_all!
          rw [find_at hy (fun j z h1 h2 => by rw [hI j z h1 h2]; rfl) (by rw [okI_no.mpr hv]; rfl)] at hq
          exact hq
      · subst he
        simp_all!
        rw [find_no fun j z h1 h2 => by rw [hI j z h1 h2]; rfl] at hq
        exact hq
end
end K80
-- W_check_total
set_option maxHeartbeats 4000000
namespace K80
open PySem PySem.Spec L2 VL
theorem sc_check_total : FnScope ["total"] ["total"] (defScope (top 38)) := ⟨rfl, rfl, rfl, by decide +kernel, rfl, by decide +kernel, by decide +kernel⟩
def C_check_total (K : Fr) : Ctr := fun os Q E => ∃ n : Int, os = [.st (.int n)] ∧ (n ≤ 300 → Q (.st .non) os) ∧ (300 < n → E (He.ga K "TooMany") [("limit", .int 300), ("what", .str "slips")] os)
section
variable {P : Program} {w : World} {K : Fr} {mg : Str → Option Value} {base : Heap}
theorem ok_check_total (T : Tx P w K mg base) : Ok P w K mg base "check_total" ["total"] 3 (C_check_total K) := by
  have sc : FnScope ["total"] ["total"] (defScope (top 38)) := sc_check_total
  refine ok_of [] T.d_check_total sc (fun fd F => F.bindsN fun _ _ _ _ _ _ us hl => match us, hl with | [_], _ => rfl) (fun os Q E h => ?_) (fun cdv A outer s H G s0 E os Q1 E1 hr hc wx => ⟨_, _, (b_one (s_if (t_gt (vv 0) (v_con T.cr_Deal T.cv_Deal_SLIPS.choose_spec Sc.int (v_cls rfl T.m_Deal))) (b_one (s_raise2 wx T.x_TooMany (hr.mono (by decide)) rfl (a_cons v_str (a_cons (v_con T.cr_Deal T.cv_Deal_SLIPS.choose_spec Sc.int (v_cls rfl T.m_Deal)) a_nil)))) b_nil)), ?_⟩)
  · obtain ⟨n, rfl, _⟩ := h; rfl
  · obtain ⟨n, rfl, h1, h2⟩ := hc
    simp!
    by_cases a : 300 < n
    · simp only [a, decide_true]
      exact h2 a
    · simp only [a, decide_false]
      exact h1 (by omega)
end
end K80
-- W_check_piles
set_option maxHeartbeats 4000000
namespace K80
open PySem PySem.Spec L2 VL
theorem sc_check_piles : FnScope ["piles", "pile"] ["piles"] (defScope (top 39)) := ⟨rfl, rfl, rfl, by decide +kernel, rfl, by decide +kernel, by decide +kernel⟩
def C_check_piles (K : Fr) : Ctr := fun os Q E => ∃ (pss : List (List Int)) (d : VL.D), os = [.st d] ∧ PilesD d pss ∧ res K E os (Q (.st .non) os) (chkPiles pss)
section
variable {P : Program} {w : World} {K : Fr} {mg : Str → Option Value} {base : Heap}
theorem ok_check_piles (T : Tx P w K mg base) : Ok P w K mg base "check_piles" ["piles"] 5 (C_check_piles K) := by
  have o_check_count := ok_check_count (P := P) (w := w) (base := base) T
  have o_check_pile := ok_check_pile (P := P) (w := w) (base := base) T
  have o_check_total := ok_check_total (P := P) (w := w) (base := base) T
  have sc : FnScope ["piles", "pile"] ["piles"] (defScope (top 39)) := sc_check_piles
  refine ok_of [] T.d_check_piles sc (fun fd F => F.bindsN fun _ _ _ _ _ _ us hl => match us, hl with | [_], _ => rfl) (fun os Q E h => ?_) (fun cdv A outer s H G s0 E os Q1 E1 hr hc wx => ⟨_, _, (b_cons (s_expr (v_callO wx o_check_count (hr.mono (by decide)) rfl (a_cons (v_len rfl T.b_len (a_cons (vv 0) a_nil)) a_nil)))
  (b_cons (s_for wx.po wx.calm (i_seq (vv 0)) (g_name (i := 1) (by show 1 ∉ ([] : List Nat); decide) sc.nd rfl (by first | exact Or.inl rfl | exact Or.inr rfl)) (b_one (s_expr (v_callO wx o_check_pile (hr.mono (by decide)) rfl (a_cons (v_len rfl T.b_len (a_cons (vv 0) a_nil)) (a_cons (vv 1) a_nil))))))
  (b_one (s_expr (v_callO wx o_check_total (hr.mono (by decide)) rfl (a_cons (v_sum wx.calm rfl T.b_sum (a_cons (vLc (own := [("pile", 1)]) wx.calm sc.nd rfl (by show ∀ v ∈ ([1] : List Nat), v ∉ ([] : List Nat); decide) (by decide) (i_seq (vv 0)) (blkOk_by (by show blkC ["piles", "pile"] (defScope (top 39)) _ _ = true; decide +kernel)) (fun _ _ _ _ _ => ⟨_, (g_name (i := 1) (by show 1 ∉ ([] : List Nat); decide) sc.nd rfl (by first | exact Or.inl rfl | exact Or.inr rfl))⟩) (fun _ _ _ _ _ => ⟨_, ts_nil⟩) (fun _ _ _ _ _ => ⟨_, (v_len rfl T.b_len (a_cons (vv 1) a_nil))⟩)) a_nil)) a_nil)))))), ?_⟩)
  · obtain ⟨pss, d, rfl, _⟩ := h; rfl
  · obtain ⟨pss, d, rfl, ⟨b, ds, hd, hr⟩, hq⟩ := hc
    have hl := hr.length
    unfold chkPiles at hq
    simp! [gLenE hd, hl]
    refine ⟨(pss.length : Int), rfl, fun h1 => ?_, fun h1 => ?_, fun h1 => ?_⟩
    · rw [if_neg (by omega), if_neg (by omega)] at hq
      simp! [sFor, items_itm hd, gLenE hd, hl]
      refine ⟨fun m e => ∃ x, e = [some (.st d), x] ∧ ∀ (j : Nat) (ns : List Int), j < m → pss[j]? = some ns → chkRow pss.length 60 .pile ns = none, ⟨none, rfl, fun j y h => absurd h (by omega)⟩, fun m e hm ⟨x, he, hI⟩ => ?_, fun e ⟨x, he, hI⟩ => ?_⟩
      · subst he
        obtain ⟨ns, hns⟩ := get_lt hm
        obtain ⟨dp, bp, h2, h3⟩ := hr.get hns
        rw [getD_of h2]
        simp! [gLenE hd, hl]
        refine ⟨_, bp, ns, dp, rfl, h3, ?_⟩
        cases hc : chkRow pss.length 60 .pile ns with
        | none =>
          show _
          simp_all!
          refine ⟨_, rfl, fun j z hj hz => ?_⟩
          by_cases ej : j = m
          · subst ej; rw [hns] at hz; cases hz; exact hc
          · exact hI j z (by omega) hz
        | some er =>
          rw [fsome_at hns hI hc] at hq
          show erE _ _ _ er
          cases er <;> exact hq
      · subst he
        rw [fsome_no hI] at hq
        simp! [sLc, items_itm hd, hl]
        refine ⟨fun m acc e => e = [some (.st d), none] ∧ acc = (pss.take m).map fun ns => VL.D.int ns.length, ⟨rfl, rfl⟩, fun m acc e hm ⟨he, ha⟩ => ?_, fun acc e ⟨he, ha⟩ => ?_⟩
        · subst he ha
          obtain ⟨ns, hns⟩ := get_lt hm
          obtain ⟨dp, bp, h2, h3⟩ := hr.get hns
          rw [getD_of h2]
          simp! [gLenE h3]
          refine ⟨szLt (by rw [List.length_take]; omega), ?_⟩
          rw [take_snoc hns, List.map_append]; rfl
        · subst he ha
          rw [show (pss.take pss.length).map (fun ns => VL.D.int (ns.length : Nat)) = (pss.map fun ns => (ns.length : Int)).map VL.D.int by rw [List.take_length, List.map_map]; rfl]
          simp!
          refine ⟨_, rfl, ?_⟩
          simp_all!
          have hs := sum_len pss
          refine ⟨_, rfl, fun h2 => ?_, fun h2 => ?_⟩
          · rw [hs] at h2
            simp_all!
            simp only [] at hq
            rw [if_neg (by omega)] at hq
            exact hq
          · rw [hs] at h2
            simp_all!
            simp only [] at hq
            rw [if_pos (by omega)] at hq
            exact hq
    · rw [if_pos (by omega)] at hq
      simp_all!
      exact hq
    · rw [if_neg (by omega), if_pos (by omega)] at hq
      simp_all!
      exact hq
end
end K80
-- W_check_starts
set_option maxHeartbeats 4000000
namespace K80
open PySem PySem.Spec L2 VL
theorem sc_check_starts : FnScope ["n", "starts", "start"] ["n", "starts"] (defScope (top 40)) := ⟨rfl, rfl, rfl, by decide +kernel, rfl, by decide +kernel, by decide +kernel⟩
def C_check_starts (K : Fr) : Ctr := fun os Q E => ∃ (n : Int) (b : Bool) (ns : List Int) (d : VL.D), os = [.st (.int n), .st d] ∧ d.itm = some (b, ns.map .int) ∧ res K E os (Q (.st .non) os) (chkRow n 40 .couriers ns)
section
variable {P : Program} {w : World} {K : Fr} {mg : Str → Option Value} {base : Heap}
theorem ok_check_starts (T : Tx P w K mg base) : Ok P w K mg base "check_starts" ["n", "starts"] 4 (C_check_starts K) := by
  have o_check_station := ok_check_station (P := P) (w := w) (base := base) T
  have sc : FnScope ["n", "starts", "start"] ["n", "starts"] (defScope (top 40)) := sc_check_starts
  refine ok_of [] T.d_check_starts sc (fun fd F => F.bindsN fun _ _ _ _ _ _ us hl => match us, hl with | [_, _], _ => rfl) (fun os Q E h => ?_) (fun cdv A outer s H G s0 E os Q1 E1 hr hc wx => ⟨_, _, (b_cons (s_if (t_gt (v_len rfl T.b_len (a_cons (vv 1) a_nil)) (v_con T.cr_Deal T.cv_Deal_COURIERS.choose_spec Sc.int (v_cls rfl T.m_Deal))) (b_one (s_raise2 wx T.x_TooMany (hr.mono (by decide)) rfl (a_cons v_str (a_cons (v_con T.cr_Deal T.cv_Deal_COURIERS.choose_spec Sc.int (v_cls rfl T.m_Deal)) a_nil)))) b_nil)
  (b_one (s_for wx.po wx.calm (i_seq (vv 1)) (g_name (i := 2) (by show 2 ∉ ([] : List Nat); decide) sc.nd rfl (by first | exact Or.inl rfl | exact Or.inr rfl)) (b_one (s_expr (v_callO wx o_check_station (hr.mono (by decide)) rfl (a_cons (vv 0) (a_cons (vv 2) a_nil)))))))), ?_⟩)
  · obtain ⟨n, b, ns, d, rfl, _⟩ := h; rfl
  · obtain ⟨n, b, ns, d, rfl, hd, hq⟩ := hc
    simp! [gLenE hd, List.length_map]
    unfold chkRow at hq
    by_cases a : 40 < ns.length
    · rw [decide_eq_true (by omega)]
      rw [if_pos a] at hq
      exact hq
    · rw [decide_eq_false (by omega)]
      rw [if_neg a] at hq
      simp! [sFor, items_itm hd]
      refine ⟨fun m e => ∃ x, e = [some (.st (.int n)), some (.st d), x] ∧ ∀ (j : Nat) (y : Int), j < m → ns[j]? = some y → okI n y = true, ⟨none, rfl, fun j y h => absurd h (by omega)⟩, fun m e hm ⟨x, he, hI⟩ => ?_, fun e ⟨x, he, hI⟩ => ?_⟩
      · subst he
        obtain ⟨y, hy⟩ := get_lt hm
        rw [getD_int hy]
        simp!
        refine ⟨n, y, rfl, fun hv => ?_, fun hv => ?_⟩
        · simp_all!
          refine ⟨_, rfl, fun j z hj hz => ?_⟩
          by_cases ej : j = m
          · subst ej; rw [hy] at hz; cases hz; exact okI_iff.mpr hv
          · exact hI j z (by omega) hz
        · simp_all!
          rw [find_at hy (fun j z h1 h2 => by rw [hI j z h1 h2]; rfl) (by rw [okI_no.mpr hv]; rfl)] at hq
          exact hq
      · subst he
        simp_all!
        rw [find_no fun j z h1 h2 => by rw [hI j z h1 h2]; rfl] at hq
        exact hq
end
end K80
-- W_Deal_init
set_option maxHeartbeats 4000000
namespace K80
open PySem PySem.Spec L2 VL
theorem sc_Deal_init : FnScope ["self", "piles", "starts", "pile"] ["self", "piles", "starts"] (defScope ((cBody (top 34)).getD 4 (.Pass ⟨0, 0, 0, 0⟩))) := ⟨rfl, rfl, rfl, by decide +kernel, rfl, by decide +kernel, by decide +kernel⟩
def C_Deal_init (K : Fr) : Ctr := fun os Q E => ∃ (pss : List (List Int)) (starts : List Int) (d1 d2 : VL.D) (b2 : Bool), os = [.ins (He.ga K "Deal") [], .st d1, .st d2] ∧ PilesD d1 pss ∧ pss.length ≤ 1000 ∧ d2.itm = some (b2, starts.map .int) ∧
  Q (.st .non) [dealO K pss starts, .st d1, .st d2]
section
variable {P : Program} {w : World} {K : Fr} {mg : Str → Option Value} {base : Heap}
theorem fi_Deal (T : Tx P w K mg base) : ∃ fd, Binds K fd ["self", "piles", "starts"] [] ∧ FnOk P w K mg base (L2N.CX P w) 3 (He.ma K (He.ga K "Deal") "__init__") fd ["self", "piles", "starts"] (VSp K (C_Deal_init K)) := by
  have sc : FnScope ["self", "piles", "starts", "pile"] ["self", "piles", "starts"] (defScope ((cBody (top 34)).getD 4 (.Pass ⟨0, 0, 0, 0⟩))) := sc_Deal_init
  obtain ⟨fd, Fd⟩ := T.di_Deal
  refine ⟨fd, Fd.bindsN fun _ _ _ _ _ _ us hl => match us, hl with | [_, _, _], _ => rfl, ?_⟩
  refine def_of [0] Fd sc (fun os Q E h => ?_) (fun cdv A outer s H G s0 E os Q1 E1 hr hc wx => ⟨_, _, (b_cons (s_fldSet T.c_Deal T.na_Deal_piles (vv 0) (v_tuple rfl T.b_tuple bt_tuple (a_cons (vLc (own := [("pile", 3)]) wx.calm sc.nd rfl (by show ∀ v ∈ ([3] : List Nat), v ∉ ([0] : List Nat); decide) (by decide) (i_seq (vv 1)) (blkOk_by (by show blkC ["self", "piles", "starts", "pile"] (defScope ((cBody (top 34)).getD 4 (.Pass ⟨0, 0, 0, 0⟩))) _ _ = true; decide +kernel)) (fun _ _ _ _ _ => ⟨_, (g_name (i := 3) (by show 3 ∉ ([0] : List Nat); decide) sc.nd rfl (by first | exact Or.inl rfl | exact Or.inr rfl))⟩) (fun _ _ _ _ _ => ⟨_, ts_nil⟩) (fun _ _ _ _ _ => ⟨_, (v_tuple rfl T.b_tuple bt_tuple (a_cons (vv 3) a_nil))⟩)) a_nil)))
  (b_one (s_fldSet T.c_Deal T.na_Deal_starts (vv 0) (v_tuple rfl T.b_tuple bt_tuple (a_cons (vv 2) a_nil))))), ?_⟩)
  · obtain ⟨pss, starts, d1, d2, b2, rfl, _⟩ := h; rfl
  · obtain ⟨pss, starts, d1, d2, b2, rfl, ⟨b, ds, hd, hr⟩, hn, hd2, hq⟩ := hc
    have hl := hr.length
    simp! [sLc, items_itm hd, hl]
    refine ⟨fun m acc e => e = [some (.ins (He.ga K "Deal") []), some (.st d1), some (.st d2), none] ∧ acc = (pss.take m).map tupI, ⟨rfl, rfl⟩, fun m acc e hm ⟨he, ha⟩ => ?_, fun acc e ⟨he, ha⟩ => ?_⟩
    · subst he ha
      obtain ⟨ns, hns⟩ := get_lt hm
      obtain ⟨dp, bp, h2, h3⟩ := hr.get hns
      rw [getD_of h2]
      simp! [h3]
      refine ⟨szLt (by rw [List.length_take]; omega), ?_⟩
      rw [take_snoc hns, List.map_append]; rfl
    · subst he ha
      simp! [hd2, List.take_length]
      exact hq
end
end K80
-- W_make_deal
set_option maxHeartbeats 4000000
namespace K80
open PySem PySem.Spec L2 VL
theorem sc_make_deal : FnScope ["piles", "starts"] ["piles", "starts"] (defScope (top 42)) := ⟨rfl, rfl, rfl, by decide +kernel, rfl, by decide +kernel, by decide +kernel⟩
def C_make_deal (K : Fr) : Ctr := fun os Q E => ∃ (pss : List (List Int)) (starts : List Int) (d1 d2 : VL.D) (b2 : Bool), os = [.st d1, .st d2] ∧ PilesD d1 pss ∧ d2.itm = some (b2, starts.map .int) ∧
  res K E os (Q (dealO K pss starts) os) (chkDeal pss starts)
section
variable {P : Program} {w : World} {K : Fr} {mg : Str → Option Value} {base : Heap}
theorem okf_make_deal (T : Tx P w K mg base) : Okf P w K mg base "make_deal" (top 42) [.ref (He.dflAt ("make_deal", none) 0 K)] [] ["piles", "starts"] 6 (C_make_deal K) := by
  have o_check_piles := ok_check_piles (P := P) (w := w) (base := base) T
  have o_check_starts := ok_check_starts (P := P) (w := w) (base := base) T
  obtain ⟨fd_Deal, B_Deal, F_Deal⟩ := fi_Deal (P := P) (w := w) (base := base) T
  have sc : FnScope ["piles", "starts"] ["piles", "starts"] (defScope (top 42)) := sc_make_deal
  refine okf_of [] T.d_make_deal sc (fun os Q E h => ?_) (fun cdv A outer s H G s0 E os Q1 E1 hr hc wx => ⟨_, _, (b_cons (s_expr (v_callO wx o_check_piles (hr.mono (by decide)) rfl (a_cons (vv 0) a_nil)))
  (b_cons (s_expr (v_callO wx o_check_starts (hr.mono (by decide)) rfl (a_cons (v_len rfl T.b_len (a_cons (vv 0) a_nil)) (a_cons (vv 1) a_nil))))
  (b_one (s_ret (v_make (takesF wx.tk) T.mk_Deal F_Deal (hr.mono (by decide)) rfl T.m_Deal B_Deal (a_cons (vv 0) (a_cons (vv 1) a_nil))))))), ?_⟩)
  · obtain ⟨pss, starts, d1, d2, b2, rfl, _⟩ := h; rfl
  · obtain ⟨pss, starts, d1, d2, b2, rfl, hp, hd2, hq⟩ := hc
    obtain ⟨b, ds, hd, hr⟩ := id hp
    have hl := hr.length
    unfold chkDeal at hq
    simp!
    refine ⟨pss, d1, rfl, hp, ?_⟩
    cases h1 : chkPiles pss with
    | some er =>
      rw [h1] at hq
      show erE _ _ _ er
      cases er <;> exact hq
    | none =>
      rw [h1] at hq
      show _
      simp! [gLenE hd, hl]
      refine ⟨(pss.length : Int), b2, starts, d2, rfl, hd2, ?_⟩
      replace hq : res K E1 [OD.st d1, OD.st d2] (Q1 (dealO K pss starts) [OD.st d1, OD.st d2]) (chkRow pss.length 40 .couriers starts) := hq
      cases h2 : chkRow pss.length 40 .couriers starts with
      | some er =>
        rw [h2] at hq
        show erE _ _ _ er
        cases er <;> exact hq
      | none =>
        rw [h2] at hq
        show _
        simp! [sMake]
        refine ⟨pss, starts, d1, d2, b2, rfl, hp, ?_, hd2, rfl, ?_⟩
        · have : ¬ pss.length < 1 ∧ ¬ 40 < pss.length := by
            unfold chkPiles at h1
            constructor
            · intro z; rw [if_pos z] at h1; cases h1
            · intro z; rw [if_neg (by omega), if_pos z] at h1; cases h1
          omega
        · exact hq
theorem ok_make_deal (T : Tx P w K mg base) : Ok P w K mg base "make_deal" ["piles", "starts"] 6 (C_make_deal K) :=
  (okf_make_deal T).all fun fd F => by
    obtain ⟨ds, h1, h2⟩ := F.binds1 (ps := ["piles", "starts"]) 2 1 (by simp) rfl fun T0 kV doc pm an cdv ct us its hl hi => match us, its, hl, hi with | [_, _], [_], _, _ => ⟨_, rfl, rfl⟩
    cases h1
    exact h2
theorem okd_make_deal (T : Tx P w K mg base) : OkD P w K mg base "make_deal" ["piles", "starts"] 6 (C_make_deal K) [.tup []] :=
  (okf_make_deal T).dfl [.ref (He.dflAt ("make_deal", none) 0 K)] [.tup []] (fun S => .cons (.tup (.inr T.t_make) .nil) .nil) fun fd F => F.binds1 1 0 (by simp) rfl fun T0 kV doc pm an cdv ct us its hl hi => match us, its, hl, hi with | [_], [_], _, _ => ⟨_, rfl, rfl⟩
end
end K80
-- W_tally_of
set_option maxHeartbeats 4000000
namespace K80
open PySem PySem.Spec L2 VL
theorem sc_tally_of : FnScope ["n", "row", "counts", "v"] ["n", "row"] (defScope (top 41)) := ⟨rfl, rfl, rfl, by decide +kernel, rfl, by decide +kernel, by decide +kernel⟩
def C_tally_of (K : Fr) : Ctr := fun os Q E => ∃ (n : Nat) (b : Bool) (row : List Int) (d : VL.D), os = [.st (.int n), .st d] ∧ d.itm = some (b, row.map .int) ∧ n ≤ 1000 ∧ (∀ x ∈ row, 0 ≤ x ∧ x < n) ∧ Q (.st (.tup ((tally n row).map .int))) os
section
variable {P : Program} {w : World} {K : Fr} {mg : Str → Option Value} {base : Heap}
theorem ok_tally_of (T : Tx P w K mg base) : Ok P w K mg base "tally_of" ["n", "row"] 3 (C_tally_of K) := by
  have sc : FnScope ["n", "row", "counts", "v"] ["n", "row"] (defScope (top 41)) := sc_tally_of
  refine ok_of [] T.d_tally_of sc (fun fd F => F.bindsN fun _ _ _ _ _ _ us hl => match us, hl with | [_, _], _ => rfl) (fun os Q E h => ?_) (fun cdv A outer s H G s0 E os Q1 E1 hr hc wx => ⟨_, _, (b_cons (s_set (i := 2) (by show 2 ∉ ([] : List Nat); decide) sc.nd rfl (by first | exact Or.inl rfl | exact Or.inr rfl) (v_mulA (v_lst (a_cons v_int a_nil)) (vv 0)))
  (b_cons (s_for wx.po wx.calm (i_seq (vv 1)) (g_name (i := 3) (by show 3 ∉ ([] : List Nat); decide) sc.nd rfl (by first | exact Or.inl rfl | exact Or.inr rfl)) (b_one (s_augIx ip_add (vv 2) (vv 3) v_int)))
  (b_one (s_ret (v_tuple rfl T.b_tuple bt_tuple (a_cons (vv 2) a_nil)))))), ?_⟩)
  · obtain ⟨n, b, row, d, rfl, _⟩ := h; rfl
  · obtain ⟨n, b, row, d, rfl, hd, hn, hrow, hq⟩ := hc
    simp! [sFor, items_itm hd, repD_one, Int.toNat_natCast]
    refine ⟨szOk (by omega), ⟨by omega, by omega, szOk (by omega)⟩, ?_⟩
    refine ⟨fun m e => ∃ x, e = [some (.st (.int n)), some (.st d), some (.lst (((tally n (row.take m)).map VL.D.int).map .st)), x], ⟨none, ?_⟩, fun m e hm ⟨x, he⟩ => ?_, fun e ⟨x, he⟩ => ?_⟩
    · simp only [List.take_zero, tally_nil, List.map_replicate]
    · subst he
      obtain ⟨y, hy⟩ := get_lt hm
      obtain ⟨h0, h1⟩ := hrow y (List.mem_of_getElem? hy)
      rw [getD_int hy]
      simp! [List.getElem?_map, tally_get h0 h1, tally_len]
      refine ⟨h0, by omega, some (.st (.int y)), ?_⟩
      rw [take_snoc hy, tally_snoc h0 h1]
    · subst he
      simp!
      rw [List.take_length]
      exact hq
end
end K80
-- W_pack_of
set_option maxHeartbeats 4000000
namespace K80
open PySem PySem.Spec L2 VL
theorem sc_pack_of : FnScope ["deal", "pile", "slip"] ["deal"] (defScope (top 44)) := ⟨rfl, rfl, rfl, by decide +kernel, rfl, by decide +kernel, by decide +kernel⟩
def C_pack_of (K : Fr) : Ctr := fun os Q E => ∃ (pss : List (List Int)) (starts : List Int), os = [.st (dealD K pss starts)] ∧ pss.length ≤ 1000 ∧ (pss.map List.length).sum ≤ 1000 ∧ (∀ ns ∈ pss, ∀ x ∈ ns, 0 ≤ x ∧ x < pss.length) ∧ Q (.st (tupI (tally pss.length pss.flatten))) os
section
variable {P : Program} {w : World} {K : Fr} {mg : Str → Option Value} {base : Heap}
theorem ok_pack_of (T : Tx P w K mg base) : Ok P w K mg base "pack_of" ["deal"] 4 (C_pack_of K) := by
  have o_tally_of := ok_tally_of (P := P) (w := w) (base := base) T
  have sc : FnScope ["deal", "pile", "slip"] ["deal"] (defScope (top 44)) := sc_pack_of
  refine ok_of [] T.d_pack_of sc (fun fd F => F.bindsN fun _ _ _ _ _ _ us hl => match us, hl with | [_], _ => rfl) (fun os Q E h => ?_) (fun cdv A outer s H G s0 E os Q1 E1 hr hc wx => ⟨_, _, (b_one (s_ret (v_callO wx o_tally_of (hr.mono (by decide)) rfl (a_cons (v_len rfl T.b_len (a_cons (v_fld T.c_Deal T.na_Deal_piles (vv 0)) a_nil)) (a_cons (v_fz (vLc2 (own := [("pile", 1), ("slip", 2)]) (vs1 := [2]) wx.calm sc.nd rfl (by show ∀ v ∈ ([1, 2] : List Nat), v ∉ ([] : List Nat); decide) (by decide) (by decide) (by decide) (i_seq (v_fld T.c_Deal T.na_Deal_piles (vv 0))) (blkOk_by (by show blkC ["deal", "pile", "slip"] (defScope (top 44)) _ _ = true; decide +kernel)) (fun _ _ _ _ _ => ⟨_, (g_name (i := 1) (by show 1 ∉ ([] : List Nat); decide) sc.nd rfl (by first | exact Or.inl rfl | exact Or.inr rfl))⟩) (fun _ _ _ _ _ => ⟨_, ts_nil⟩) (fun _ _ _ _ _ => ⟨_, (i_seq (vv 1))⟩) (fun _ _ _ _ _ => ⟨_, (g_name (i := 2) (by show 2 ∉ ([] : List Nat); decide) sc.nd rfl (by first | exact Or.inl rfl | exact Or.inr rfl))⟩) (fun _ _ _ _ _ => ⟨_, ts_nil⟩) (fun _ _ _ _ _ => ⟨_, (vv 2)⟩))) a_nil))))), ?_⟩)
  · obtain ⟨pss, starts, rfl, _⟩ := h; rfl
  · obtain ⟨pss, starts, rfl, hn, hs, hx, hq⟩ := hc
    simp! [sLc2, dealD, gLenE (itm_pilesT pss), items_itm (itm_pilesT pss)]
    refine ⟨fun m acc e => e = [some (.st (dealD K pss starts)), none, none] ∧ acc = ((pss.take m).flatten).map VL.D.int, ⟨rfl, rfl⟩, fun m acc e hm ⟨he, ha⟩ => ?_, fun acc e ⟨he, ha⟩ => ?_⟩
    · subst he ha
      obtain ⟨ns, hns⟩ := get_lt hm
      rw [getD_tupI hns]
      simp! [items_itm (itm_tupI ns)]
      refine ⟨fun k acc1 e => e = [some (.st (dealD K pss starts)), some (.st (tupI ns)), none] ∧ acc1 = ((pss.take m).flatten ++ ns.take k).map VL.D.int, ⟨rfl, by rw [List.take_zero, List.append_nil]⟩, fun k acc1 e hk ⟨he, ha⟩ => ?_, fun acc1 e ⟨he, ha⟩ => ?_⟩
      · subst he ha
        obtain ⟨y, hy⟩ := get_lt hk
        rw [getD_int hy]
        simp!
        refine ⟨szLt ?_, ?_⟩
        · have h1 := flat_take (pss := pss) (m := m)
          have h2 := row_len (List.mem_of_getElem? hns)
          rw [flat_len pss] at h1 h2
          rw [List.length_append, List.length_take]
          omega
        · rw [take_snoc hy, ← List.append_assoc, List.map_append (l₁ := (pss.take m).flatten ++ ns.take k)]; rfl
      · subst he ha
        refine ⟨rfl, ?_⟩
        rw [take_snoc hns, List.flatten_append, List.take_length]
        simp
    · subst he ha
      simp! [List.take_length]
      refine ⟨pss.length, false, pss.flatten, .lst (pss.flatten.map .int), rfl, rfl, hn, fun x hx' => ?_, ?_⟩
      · obtain ⟨ns, h1, h2⟩ := List.mem_flatten.mp hx'
        exact hx ns h1 x h2
      · simp_all!
        exact hq
end
end K80
-- W_sizes_of
set_option maxHeartbeats 4000000
namespace K80
open PySem PySem.Spec L2 VL
theorem sc_sizes_of : FnScope ["deal", "pile"] ["deal"] (defScope (top 43)) := ⟨rfl, rfl, rfl, by decide +kernel, rfl, by decide +kernel, by decide +kernel⟩
def C_sizes_of (K : Fr) : Ctr := fun os Q E => ∃ (pss : List (List Int)) (starts : List Int), os = [.st (dealD K pss starts)] ∧ pss.length ≤ 1000 ∧ Q (.st (tupI (pss.map fun ns => (ns.length : Int)))) os
section
variable {P : Program} {w : World} {K : Fr} {mg : Str → Option Value} {base : Heap}
theorem ok_sizes_of (T : Tx P w K mg base) : Ok P w K mg base "sizes_of" ["deal"] 3 (C_sizes_of K) := by
  have sc : FnScope ["deal", "pile"] ["deal"] (defScope (top 43)) := sc_sizes_of
  refine ok_of [] T.d_sizes_of sc (fun fd F => F.bindsN fun _ _ _ _ _ _ us hl => match us, hl with | [_], _ => rfl) (fun os Q E h => ?_) (fun cdv A outer s H G s0 E os Q1 E1 hr hc wx => ⟨_, _, (b_one (s_ret (v_tuple rfl T.b_tuple bt_tuple (a_cons (vLc (own := [("pile", 1)]) wx.calm sc.nd rfl (by show ∀ v ∈ ([1] : List Nat), v ∉ ([] : List Nat); decide) (by decide) (i_seq (v_fld T.c_Deal T.na_Deal_piles (vv 0))) (blkOk_by (by show blkC ["deal", "pile"] (defScope (top 43)) _ _ = true; decide +kernel)) (fun _ _ _ _ _ => ⟨_, (g_name (i := 1) (by show 1 ∉ ([] : List Nat); decide) sc.nd rfl (by first | exact Or.inl rfl | exact Or.inr rfl))⟩) (fun _ _ _ _ _ => ⟨_, ts_nil⟩) (fun _ _ _ _ _ => ⟨_, (v_len rfl T.b_len (a_cons (vv 1) a_nil))⟩)) a_nil)))), ?_⟩)
  · obtain ⟨pss, starts, rfl, _⟩ := h; rfl
  · obtain ⟨pss, starts, rfl, hn, hq⟩ := hc
    simp! [sLc, dealD, items_itm (itm_pilesT pss)]
    refine ⟨fun m acc e => e = [some (.st (dealD K pss starts)), none] ∧ acc = (pss.take m).map fun ns => VL.D.int ns.length, ⟨rfl, rfl⟩, fun m acc e hm ⟨he, ha⟩ => ?_, fun acc e ⟨he, ha⟩ => ?_⟩
    · subst he ha
      obtain ⟨ns, hns⟩ := get_lt hm
      rw [getD_tupI hns]
      simp! [gLenE (itm_tupI ns)]
      refine ⟨szLt (by rw [List.length_take]; omega), ?_⟩
      rw [take_snoc hns, List.map_append]; rfl
    · subst he ha
      simp! [List.take_length]
      rw [tupI, List.map_map] at hq
      exact hq
end
end K80
-- W_lacks
set_option maxHeartbeats 4000000
namespace K80
open PySem PySem.Spec L2 VL
theorem sc_lacks : FnScope ["deal", "size", "named"] ["deal"] (defScope (top 53)) := ⟨rfl, rfl, rfl, by decide +kernel, rfl, by decide +kernel, by decide +kernel⟩
def C_lacks (K : Fr) : Ctr := fun os Q E => ∃ (pss : Piles) (starts : List Int), os = [.st (dealD K pss starts)] ∧ NamesOk pss ∧ pss.length ≤ 1000 ∧ total pss ≤ 1000 ∧
  Q (.lst (((lackP pss).map VL.D.int).map .st)) os
section
variable {P : Program} {w : World} {K : Fr} {mg : Str → Option Value} {base : Heap}
theorem ok_lacks (T : Tx P w K mg base) : Ok P w K mg base "lacks" ["deal"] 5 (C_lacks K) := by
  have o_pack_of := ok_pack_of (P := P) (w := w) (base := base) T
  have o_sizes_of := ok_sizes_of (P := P) (w := w) (base := base) T
  have sc : FnScope ["deal", "size", "named"] ["deal"] (defScope (top 53)) := sc_lacks
  refine ok_of [] T.d_lacks sc (fun fd F => F.bindsN fun _ _ _ _ _ _ us hl => match us, hl with | [_], _ => rfl) (fun os Q E h => ?_) (fun cdv A outer s H G s0 E os Q1 E1 hr hc wx => ⟨_, _, (b_one (s_ret (vLc (own := [("size", 1), ("named", 2)]) wx.calm sc.nd rfl (by show ∀ v ∈ ([1, 2] : List Nat), v ∉ ([] : List Nat); decide) (by decide) (i_zip rfl T.b_zip (a_cons (v_callO wx o_sizes_of (hr.mono (by decide)) rfl (a_cons (vv 0) a_nil)) (a_cons (v_callO wx o_pack_of (hr.mono (by decide)) rfl (a_cons (vv 0) a_nil)) a_nil))) (blkOk_by (by show blkC ["deal", "size", "named"] (defScope (top 53)) _ _ = true; decide +kernel)) (fun _ _ _ _ _ => ⟨_, (g_tup (n := 2) (gs_cons (g_name (i := 1) (by show 1 ∉ ([] : List Nat); decide) sc.nd rfl (by first | exact Or.inl rfl | exact Or.inr rfl)) (gs_cons (g_name (i := 2) (by show 2 ∉ ([] : List Nat); decide) sc.nd rfl (by first | exact Or.inl rfl | exact Or.inr rfl)) gs_nil)) (fun h => pg_tup wx.calm h))⟩) (fun _ _ _ _ _ => ⟨_, ts_nil⟩) (fun _ _ _ _ _ => ⟨_, (v_max2 wx.calm rfl T.b_max (a_cons v_int (a_cons (v_sub (vv 1) (vv 2)) a_nil)))⟩)))), ?_⟩)
  · obtain ⟨pss, starts, rfl, _⟩ := h; rfl
  · obtain ⟨pss, starts, rfl, hn, hz1, hz2, hq⟩ := hc
    dsimp!
    refine r_lc (e1 := [some (.st (dealD K pss starts)), none, none]) (fun m acc e => e = [some (.st (dealD K pss starts)), none, none] ∧ acc = ((lackP pss).take m).map .int) pss.length (fun i => .tup [((pss.map fun ns => (ns.length : Int)).map VL.D.int).getD i .non, ((tally pss.length pss.flatten).map VL.D.int).getD i .non]) (fun Q q => by
      simp!
      refine ⟨pss, starts, rfl, hz1, ?_⟩
      simp_all!
      refine ⟨pss, starts, rfl, hz1, hz2, hn, ?_⟩
      simp_all!
      rw [itm_tupI, itm_tupI]
      refine ⟨rfl, ?_⟩
      rw [List.length_map, List.length_map, List.length_map, tally_len, Nat.min_self]
      exact q) ⟨rfl, rfl⟩ (fun m acc e hm ⟨he, ha⟩ => ?_) fun acc e ⟨he, ha⟩ => ?_
    · subst he ha
      obtain ⟨ns, hns⟩ := get_lt hm
      rw [lackP_take pss hns, tally_natD hm, getD_int (ns := pss.map fun ns => (ns.length : Int)) (by rw [List.getElem?_map, hns]; rfl), getD_int (tally_nat (row := pss.flatten) hm)]
      simp!
      refine ⟨szLt (by rw [List.length_take, lackP_len]; omega), ?_⟩
      rw [List.map_append, show ((if (ns.length : Int) - ((pss.flatten.count (m : Int) : Nat) : Int) > 0 then (ns.length : Int) - ((pss.flatten.count (m : Int) : Nat) : Int) else 0)) = max 0 ((ns.length : Int) - ((pss.flatten.count (m : Int) : Nat) : Int)) by split <;> omega]
      rfl
    · subst he ha
      simp!
      rw [List.take_of_length_le (by rw [lackP_len]; exact Nat.le_refl _)]
      exact hq
end
end K80
-- W_bottoms
set_option maxHeartbeats 4000000
namespace K80
open PySem PySem.Spec L2 VL
theorem sc_bottoms : FnScope ["piles", "pile"] ["piles"] (defScope (top 46)) := ⟨rfl, rfl, rfl, by decide +kernel, rfl, by decide +kernel, by decide +kernel⟩
def C_bottoms (K : Fr) : Ctr := fun os Q E => ∃ (pss : List (List Int)), os = [.st (pilesT pss)] ∧ pss.length ≤ 1000 ∧ Q (.st (.tup (pss.map lastD))) os
section
variable {P : Program} {w : World} {K : Fr} {mg : Str → Option Value} {base : Heap}
theorem ok_bottoms (T : Tx P w K mg base) : Ok P w K mg base "bottoms" ["piles"] 3 (C_bottoms K) := by
  have sc : FnScope ["piles", "pile"] ["piles"] (defScope (top 46)) := sc_bottoms
  refine ok_of [] T.d_bottoms sc (fun fd F => F.bindsN fun _ _ _ _ _ _ us hl => match us, hl with | [_], _ => rfl) (fun os Q E h => ?_) (fun cdv A outer s H G s0 E os Q1 E1 hr hc wx => ⟨_, _, (b_one (s_ret (v_tuple rfl T.b_tuple bt_tuple (a_cons (vLc (own := [("pile", 1)]) wx.calm sc.nd rfl (by show ∀ v ∈ ([1] : List Nat), v ∉ ([] : List Nat); decide) (by decide) (i_seq (vv 0)) (blkOk_by (by show blkC ["piles", "pile"] (defScope (top 46)) _ _ = true; decide +kernel)) (fun _ _ _ _ _ => ⟨_, (g_name (i := 1) (by show 1 ∉ ([] : List Nat); decide) sc.nd rfl (by first | exact Or.inl rfl | exact Or.inr rfl))⟩) (fun _ _ _ _ _ => ⟨_, ts_nil⟩) (fun _ _ _ _ _ => ⟨_, (v_if (t_gt (v_len rfl T.b_len (a_cons (vv 1) a_nil)) v_int) (v_ix (vv 1) (v_neg v_int)) v_non)⟩)) a_nil)))), ?_⟩)
  · obtain ⟨pss, rfl, _⟩ := h; rfl
  · obtain ⟨pss, rfl, hn, hq⟩ := hc
    simp! [sLc, items_itm (itm_pilesT pss)]
    refine ⟨fun m acc e => e = [some (.st (pilesT pss)), none] ∧ acc = (pss.take m).map lastD, ⟨rfl, rfl⟩, fun m acc e hm ⟨he, ha⟩ => ?_, fun acc e ⟨he, ha⟩ => ?_⟩
    · subst he ha
      obtain ⟨ns, hns⟩ := get_lt hm
      rw [getD_tupI hns]
      simp! [gLenE (itm_tupI ns)]
      by_cases h0 : ns = []
      · subst h0
        simp only [List.length_nil]
        rw [decide_eq_false (by omega)]
        refine ⟨szLt (by rw [List.length_take]; omega), ?_⟩
        rw [take_snoc hns, List.map_append]; rfl
      · have hl : 0 < ns.length := List.length_pos_iff.mpr h0
        rw [decide_eq_true (by omega)]
        simp! [itm_tupI ns, atI_last h0]
        refine ⟨szLt (by rw [List.length_take]; omega), ?_⟩
        rw [take_snoc hns, List.map_append]; rfl
    · subst he ha
      simp! [List.take_length]
      exact hq
end
end K80
-- W_last_slips
set_option maxHeartbeats 4000000
namespace K80
open PySem PySem.Spec L2 VL
theorem sc_last_slips : FnScope ["deal"] ["deal"] (defScope (top 47)) := ⟨rfl, rfl, rfl, by decide +kernel, rfl, by decide +kernel, by decide +kernel⟩
def C_last_slips (K : Fr) : Ctr := fun os Q E => ∃ (pss : List (List Int)) (starts : List Int), os = [.st (dealD K pss starts)] ∧ pss.length ≤ 1000 ∧ Q (.st (.tup (pss.map lastD))) os
section
variable {P : Program} {w : World} {K : Fr} {mg : Str → Option Value} {base : Heap}
theorem ok_last_slips (T : Tx P w K mg base) : Ok P w K mg base "last_slips" ["deal"] 4 (C_last_slips K) := by
  have o_bottoms := ok_bottoms (P := P) (w := w) (base := base) T
  have sc : FnScope ["deal"] ["deal"] (defScope (top 47)) := sc_last_slips
  refine ok_of [] T.d_last_slips sc (fun fd F => F.bindsN fun _ _ _ _ _ _ us hl => match us, hl with | [_], _ => rfl) (fun os Q E h => ?_) (fun cdv A outer s H G s0 E os Q1 E1 hr hc wx => ⟨_, _, (b_one (s_ret (v_callO wx o_bottoms (hr.mono (by decide)) rfl (a_cons (v_fld T.c_Deal T.na_Deal_piles (vv 0)) a_nil)))), ?_⟩)
  · obtain ⟨pss, starts, rfl, _⟩ := h; rfl
  · obtain ⟨pss, starts, rfl, hn, hq⟩ := hc
    simp! [dealD]
    refine ⟨pss, rfl, hn, ?_⟩
    simp_all!
    exact hq
end
end K80
-- W_check_index
set_option maxHeartbeats 4000000
namespace K80
open PySem PySem.Spec L2 VL
theorem sc_check_index : FnScope ["arrows", "v"] ["arrows", "v"] (defScope (top 30)) := ⟨rfl, rfl, rfl, by decide +kernel, rfl, by decide +kernel, by decide +kernel⟩
def C_check_index (K : Fr) : Ctr := fun os Q E => ∃ (d : VL.D) (b : Bool) (xs : List VL.D) (v : Int), os = [.st d, .st (.int v)] ∧ d.itm = some (b, xs) ∧ 0 ≤ v ∧ v < xs.length ∧ Q (.st .non) os
section
variable {P : Program} {w : World} {K : Fr} {mg : Str → Option Value} {base : Heap}
theorem ok_check_index (T : Tx P w K mg base) : Ok P w K mg base "check_index" ["arrows", "v"] 3 (C_check_index K) := by
  have sc : FnScope ["arrows", "v"] ["arrows", "v"] (defScope (top 30)) := sc_check_index
  refine ok_of [] T.d_check_index sc (fun fd F => F.bindsN fun _ _ _ _ _ _ us hl => match us, hl with | [_, _], _ => rfl) (fun os Q E h => ?_) (fun cdv A outer s H G s0 E os Q1 E1 hr hc wx => ⟨_, _, (b_one (s_if (t_w (w_or (t_lt (vv 1) v_int) (w_or1 (t_ge (vv 1) (v_len rfl T.b_len (a_cons (vv 0) a_nil)))))) (b_one (s_raise1 wx T.x_BadStation (hr.mono (by decide)) rfl (a_cons (vv 1) a_nil))) b_nil)), ?_⟩)
  · obtain ⟨d, b, xs, v, rfl, _⟩ := h; rfl
  · obtain ⟨d, b, xs, v, rfl, hd, h0, h1, hq⟩ := hc
    simp! [gLenE hd]
    rw [decide_eq_false (by omega)]
    simp! [gLenE hd]
    rw [decide_eq_false (by omega)]
    exact hq
end
end K80
-- W_check_arrows
set_option maxHeartbeats 4000000
namespace K80
open PySem PySem.Spec L2 VL
theorem sc_check_arrows : FnScope ["arrows", "part"] ["arrows"] (defScope (top 29)) := ⟨rfl, rfl, rfl, by decide +kernel, rfl, by decide +kernel, by decide +kernel⟩
def C_check_arrows (K : Fr) : Ctr := fun os Q E => ∃ (d : VL.D) (b : Bool) (a : Arr), os = [.st d] ∧ d.itm = some (b, a.map optD) ∧ a.length ≤ 40 ∧ ArrOk a ∧ Q (.st .non) os
section
variable {P : Program} {w : World} {K : Fr} {mg : Str → Option Value} {base : Heap}
theorem ok_check_arrows (T : Tx P w K mg base) : Ok P w K mg base "check_arrows" ["arrows"] 4 (C_check_arrows K) := by
  have o_check_index := ok_check_index (P := P) (w := w) (base := base) T
  have sc : FnScope ["arrows", "part"] ["arrows"] (defScope (top 29)) := sc_check_arrows
  refine ok_of [] T.d_check_arrows sc (fun fd F => F.bindsN fun _ _ _ _ _ _ us hl => match us, hl with | [_], _ => rfl) (fun os Q E h => ?_) (fun cdv A outer s H G s0 E os Q1 E1 hr hc wx => ⟨_, _, (b_cons (s_if (t_gt (v_len rfl T.b_len (a_cons (vv 0) a_nil)) (v_gint rfl T.g_MOST_STATIONS.choose_spec)) (b_one (s_raise2 wx T.x_TooMany (hr.mono (by decide)) rfl (a_cons v_str (a_cons (v_gint rfl T.g_MOST_STATIONS.choose_spec) a_nil)))) b_nil)
  (b_one (s_for wx.po wx.calm (i_seq (vv 0)) (g_name (i := 1) (by show 1 ∉ ([] : List Nat); decide) sc.nd rfl (by first | exact Or.inl rfl | exact Or.inr rfl)) (b_one (s_if (t_notN (vv 1) v_non) (b_one (s_expr (v_callO wx o_check_index (hr.mono (by decide)) rfl (a_cons (vv 0) (a_cons (vv 1) a_nil))))) b_nil))))), ?_⟩)
  · obtain ⟨d, b, a, rfl, _⟩ := h; rfl
  · obtain ⟨d, b, a, rfl, hd, hl, ha, hq⟩ := hc
    simp! [gLenE hd, List.length_map]
    rw [decide_eq_false (by omega)]
    simp!
    refine r_for (e1 := [some (.st d), none]) (fun m e => ∃ x, e = [some (.st d), x]) a.length _ (fun Q q => by
      simp! [items_itm hd, List.length_map]
      exact q) ⟨none, rfl⟩ (fun m e hm ⟨x, he⟩ => ?_) fun e ⟨x, he⟩ => ?_
    · subst he
      obtain ⟨y, hy⟩ := get_lt hm
      rw [getD_opt hy]
      cases y with
      | none =>
        simp! [optD]
        exact ⟨_, rfl⟩
      | some y =>
        obtain ⟨h0, h1⟩ := ha y (List.mem_of_getElem? hy)
        simp! [optD]
        refine ⟨d, b, _, y, rfl, hd, h0, by rw [List.length_map]; exact h1, ?_⟩
        simp_all!
        exact ⟨_, rfl⟩
    · subst he
      simp!
      exact hq
end
end K80
-- W_from_least
set_option maxHeartbeats 4000000
namespace K80
open PySem PySem.Spec L2 VL
theorem sc_from_least : FnScope ["ring", "at"] ["ring"] (defScope (top 31)) := ⟨rfl, rfl, rfl, by decide +kernel, rfl, by decide +kernel, by decide +kernel⟩
def C_from_least (K : Fr) : Ctr := fun os Q E => ∃ (r : List Int), os = [.st (.lst (r.map .int))] ∧ r ≠ [] ∧ r.length ≤ 1000 ∧ Q (.st (tupI (fromLeast r))) os
section
variable {P : Program} {w : World} {K : Fr} {mg : Str → Option Value} {base : Heap}
theorem ok_from_least (T : Tx P w K mg base) : Ok P w K mg base "from_least" ["ring"] 3 (C_from_least K) := by
  have sc : FnScope ["ring", "at"] ["ring"] (defScope (top 31)) := sc_from_least
  refine ok_of [] T.d_from_least sc (fun fd F => F.bindsN fun _ _ _ _ _ _ us hl => match us, hl with | [_], _ => rfl) (fun os Q E h => ?_) (fun cdv A outer s H G s0 E os Q1 E1 hr hc wx => ⟨_, _, (b_cons (s_set (i := 1) (by show 1 ∉ ([] : List Nat); decide) sc.nd rfl (by first | exact Or.inl rfl | exact Or.inr rfl) (v_idx (vv 0) (v_minL wx.calm rfl T.b_min (a_cons (vv 0) a_nil))))
  (b_one (s_ret (v_tuple rfl T.b_tuple bt_tuple (a_cons (v_addA (v_sl (vv 0) (o_some (vv 1)) o_none) (v_sl (vv 0) o_none (o_some (vv 1)))) a_nil))))), ?_⟩)
  · obtain ⟨r, rfl, _⟩ := h; rfl
  · obtain ⟨r, rfl, hr0, hl, hq⟩ := hc
    obtain ⟨m1, m2⟩ := minI_spec hr0
    simp!
    refine ⟨rfl, r, rfl, List.length_pos_iff.mpr hr0, fun m h1 h2 => ?_⟩
    have e : m = minI r := Int.le_antisymm (h2 _ m1) (m2 _ h1)
    subst e
    obtain ⟨i1, i2⟩ := idx_spec m1
    have hi : r.idxOf (minI r) < r.length := (List.getElem?_eq_some_iff.mp i1).1
    simp!
    refine ⟨r, rfl, r.idxOf (minI r), i1, i2, ?_⟩
    rw [cut_from _ (by rw [List.length_map]; omega), cut_to _ (by rw [List.length_map]; omega)]
    refine ⟨szOk (by simp only [List.length_drop, List.length_take, List.length_map]; omega), ?_⟩
    rw [← List.map_drop, ← List.map_take, ← List.map_append]
    exact hq
end
end K80
-- W_rings_of
set_option maxHeartbeats 4000000
namespace K80
open PySem PySem.Spec L2 VL
theorem sc_rings_of : FnScope ["arrows", "walked", "found", "v", "way", "here"] ["arrows"] (defScope (top 32)) := ⟨rfl, rfl, rfl, by decide +kernel, rfl, by decide +kernel, by decide +kernel⟩
def C_rings_of (K : Fr) : Ctr := fun os Q E => ∃ (d : VL.D) (a : Arr), os = [.st d] ∧ d = .lst (a.map optD) ∧ a.length ≤ 40 ∧ ArrOk a ∧ ∀ rs, SortedOf (ringsW a) rs → Q (.st (.tup (rs.map tupI))) os
section
variable {P : Program} {w : World} {K : Fr} {mg : Str → Option Value} {base : Heap}
theorem ok_rings_of (T : Tx P w K mg base) : Ok P w K mg base "rings_of" ["arrows"] 5 (C_rings_of K) := by
  have o_check_arrows := ok_check_arrows (P := P) (w := w) (base := base) T
  have o_from_least := ok_from_least (P := P) (w := w) (base := base) T
  have sc : FnScope ["arrows", "walked", "found", "v", "way", "here"] ["arrows"] (defScope (top 32)) := sc_rings_of
  refine ok_of [] T.d_rings_of sc (fun fd F => F.bindsN fun _ _ _ _ _ _ us hl => match us, hl with | [_], _ => rfl) (fun os Q E h => ?_) (fun cdv A outer s H G s0 E os Q1 E1 hr hc wx => ⟨_, _, (b_cons (s_expr (v_callO wx o_check_arrows (hr.mono (by decide)) rfl (a_cons (vv 0) a_nil)))
  (b_cons (s_set (i := 1) (by show 1 ∉ ([] : List Nat); decide) sc.nd rfl (by first | exact Or.inl rfl | exact Or.inr rfl) (v_mulA (v_lst (a_cons v_non a_nil)) (v_len rfl T.b_len (a_cons (vv 0) a_nil))))
  (b_cons (s_set (i := 2) (by show 2 ∉ ([] : List Nat); decide) sc.nd rfl (by first | exact Or.inl rfl | exact Or.inr rfl) (v_lst a_nil))
  (b_cons (s_for wx.po wx.calm (i_rng1 rfl T.b_range (a_cons (v_len rfl T.b_len (a_cons (vv 0) a_nil)) a_nil)) (g_name (i := 3) (by show 3 ∉ ([] : List Nat); decide) sc.nd rfl (by first | exact Or.inl rfl | exact Or.inr rfl)) (b_cons (s_set (i := 4) (by show 4 ∉ ([] : List Nat); decide) sc.nd rfl (by first | exact Or.inl rfl | exact Or.inr rfl) (v_lst a_nil))
  (b_cons (s_set (i := 5) (by show 5 ∉ ([] : List Nat); decide) sc.nd rfl (by first | exact Or.inl rfl | exact Or.inr rfl) (vv 3))
  (b_cons (s_while wx.po (t_w (w_and (t_notN (vv 5) v_non) (w_and1 (t_isN (v_ix (vv 1) (vv 5)) v_non)))) (b_cons (s_setIx (vv 1) (vv 5) (vv 3))
  (b_cons (s_app (vv 4) (vv 5))
  (b_one (s_set (i := 5) (by show 5 ∉ ([] : List Nat); decide) sc.nd rfl (by first | exact Or.inl rfl | exact Or.inr rfl) (v_ix (vv 0) (vv 5)))))))
  (b_one (s_if (t_w (w_and (t_notN (vv 5) v_non) (w_and1 (t_eq hr.units (v_ix (vv 1) (vv 5)) (vv 3))))) (b_one (s_app (vv 2) (v_callO wx o_from_least (hr.mono (by decide)) rfl (a_cons (v_fz (v_sl (vv 4) (o_some (v_idx (vv 4) (vv 5))) o_none)) a_nil)))) b_nil))))))
  (b_one (s_ret (v_tuple rfl T.b_tuple bt_tuple (a_cons (v_sortedT rfl T.b_sorted bt_sorted (a_cons (vv 2) a_nil)) a_nil)))))))), ?_⟩)
  · obtain ⟨d, a, rfl, _⟩ := h; rfl
  · obtain ⟨d, a, rfl, rfl, hl, ha, hq⟩ := hc
    dsimp!
    rw [seq_eq]
    dsimp!
    refine ⟨_, _, a, rfl, rfl, hl, ha, ?_⟩
    simp_all!
    simp only [Int.toNat_natCast, repD_one]
    refine ⟨szOk (by omega), ⟨by omega, by omega, szOk (by omega)⟩, szOk (by omega), ?_⟩
    rw [show List.replicate a.length VL.D.non = (ringsN a 0).1.map optD by show _ = (List.replicate a.length none).map optD; rw [List.map_replicate]; rfl]
    refine r_for (e1 := [some (.st (.lst (a.map optD))), some (.lst (((ringsN a 0).1.map optD).map .st)), some (.lst []), none, none, none])
      (fun m e => (∃ x3 x4 x5, e = [some (.st (.lst (a.map optD))), some (.lst (((ringsN a m).1.map optD).map .st)), some (.lst (((ringsN a m).2.map tupI).map .st)), x3, x4, x5]) ∧ RInv a m) a.length _ (fun Q q => by
        simp! [List.length_map]
        exact ⟨⟨by omega, by omega⟩, by simpa using q⟩) ⟨⟨none, none, none, rfl⟩, RInv.zero a⟩ (fun m e hm ⟨⟨x3, x4, x5, he⟩, hi⟩ => ?_) fun e ⟨⟨x3, x4, x5, he⟩, hi⟩ => ?_
    · subst he
      dsimp!
      rw [seq_eq]
      dsimp!
      rw [seq_eq]
      dsimp!
      refine ⟨szOk (by omega), ?_⟩
      generalize hF : walkR a m (a.length + 1) ((ringsN a m).1, [], some (m : Int)) = F
      refine r_cut (fun e => e = [some (.st (.lst (a.map optD))), some (.lst ((F.1.map optD).map .st)), some (.lst (((ringsN a m).2.map tupI).map .st)), some (.st (.int m)), some (.lst ((F.2.1.map VL.D.int).map .st)), some (.st (optD F.2.2))] ∧ WInv a m F.1 F.2.1 F.2.2 ∧ ∀ h, F.2.2 = some h → walkedAt F.1 h ≠ none) (fun R hR => ?_) fun e he => ?_
      · refine r_while (fun n e => ∃ (W : List (Option Int)) (way : List Int) (here : Option Int), e = [some (.st (.lst (a.map optD))), some (.lst ((W.map optD).map .st)), some (.lst (((ringsN a m).2.map tupI).map .st)), some (.st (.int m)), some (.lst ((way.map VL.D.int).map .st)), some (.st (optD here))] ∧ WInv a m W way here ∧ walkR a m n (W, way, here) = F ∧ W.count none < n) (a.length + 1)
          ⟨_, [], some (m : Int), rfl, hi.walk hm, hF, by have := cnt_le (W := (ringsN a m).1); have := hi.len; omega⟩ (fun n e ⟨W, way, here, he, wi, hw, hc⟩ => ?_)
        subst he
        cases here with
        | none =>
          simp! [optD_none]
          rw [walkR_none] at hw
          subst hw
          exact hR _ ⟨rfl, wi, fun h e => nomatch e⟩
        | some h =>
          obtain ⟨h0, h1⟩ := wi.inn h rfl
          have g := walkedAt_get wi.len h0 h1
          have a1 : L2.atI (W.map optD) h = some (optD (walkedAt W h)) := by rw [atI_pos _ _ h0, List.getElem?_map, g]; rfl
          have a2 : L2.atI (a.map optD) h = some (optD (a[h.toNat]?).join) := by rw [atI_pos _ _ h0, List.getElem?_map, arr_get h0 h1]; rfl
          have a3 : ixN W.length h = some h.toNat := ixN_pos _ _ h0 (by have := wi.len; omega)
          cases q : walkedAt W h with
          | none =>
            rw [q] at a1
            obtain ⟨ws, wc⟩ := wi.step ha q
            simp! [optD_none, optD_some, a1, a2, a3]
            match n, hc, hw with
            | 0, hc, _ => exact absurd hc (by omega)
            | n + 1, hc, hw =>
              rw [walkR_go q] at hw
              refine ⟨szLt (by have := wi.cnt; omega), n, by omega, W.set h.toNat (some (m : Int)), way ++ [h], (a[h.toNat]?).join, ?_, ws, hw, by omega⟩
              simp only [List.map_set, List.map_append]; rfl
          | some x =>
            rw [q] at a1
            rw [walkR_stop q] at hw
            subst hw
            simp! [optD_none, optD_some, a1]
            exact hR _ ⟨rfl, wi, fun h' e => by cases e; rw [q]; exact fun h => nomatch h⟩
      · obtain ⟨rfl, wi, wn⟩ := he
        have hstep : ringsN a (m + 1) = ringStep a (ringsN a m) m := rfl
        obtain ⟨W, way, here⟩ := F
        rw [ringStep_eq hF] at hstep
        simp only [] at wi wn ⊢
        cases here with
        | none =>
          simp! [optD_none]
          refine ⟨⟨some (.st (.int m)), some (.lst ((way.map VL.D.int).map .st)), some (.st .non), by rw [hstep]; rfl⟩, hi.next wi hstep (.inl rfl)⟩
        | some h =>
          obtain ⟨h0, h1⟩ := wi.inn h rfl
          have g := walkedAt_get wi.len h0 h1
          have a1 : L2.atI (W.map optD) h = some (optD (walkedAt W h)) := by rw [atI_pos _ _ h0, List.getElem?_map, g]; rfl
          cases q : walkedAt W h with
          | none => exact absurd q (wn h rfl)
          | some x =>
            rw [q] at a1 g
            by_cases ex : x = m
            · subst ex
              have hmem : h ∈ way := by
                rcases wi.own _ _ g with z | ⟨_, z⟩
                · exact absurd z (by omega)
                · rw [Int.toNat_of_nonneg h0] at z; exact z
              obtain ⟨i1, i2⟩ := idx_spec hmem
              have hlt : way.idxOf h < way.length := (List.getElem?_eq_some_iff.mp i1).1
              have hcn := wi.cnt
              rw [show ringAdd W way (m : Int) (ringsN a m).2 (some h) = (ringsN a m).2 ++ [fromLeast (way.drop (way.idxOf h))] from if_pos q] at hstep
              simp! [optD_none, optD_some, a1]
              rw [decide_eq_true trivial]
              simp!
              refine ⟨rfl, way, rfl, way.idxOf h, i1, i2, ?_⟩
              rw [cut_from _ (by rw [List.length_map]; omega)]
              have hne : way.drop (way.idxOf h) ≠ [] := fun e => by
                have := congrArg List.length e
                rw [List.length_drop] at this
                simp only [List.length_nil] at this
                omega
              refine ⟨way.drop (way.idxOf h), by rw [List.map_drop], hne, by rw [List.length_drop]; omega, ?_⟩
              simp_all!
              have hfew := hi.few
              refine ⟨szLt (by omega), ⟨some (.st (.int m)), some (.lst ((way.map VL.D.int).map .st)), some (.st (.int h)), ?_⟩, hi.next wi hstep (.inr ⟨_, fromLeast_ne hne, rfl⟩)⟩
              rw [hstep]
              simp only [List.map_append]
              rfl
            · rw [show ringAdd W way (m : Int) (ringsN a m).2 (some h) = (ringsN a m).2 from if_neg (by rw [q]; exact fun e => ex (by cases e; rfl))] at hstep
              simp! [optD_none, optD_some, a1]
              rw [decide_eq_false ex]
              simp!
              exact ⟨⟨some (.st (.int m)), some (.lst ((way.map VL.D.int).map .st)), some (.st (.int h)), by rw [hstep]⟩, hi.next wi hstep (.inl rfl)⟩
    · subst he
      simp!
      refine ⟨_, rfl, hi.ne, fun nss h1 h2 => ?_⟩
      exact hq nss ⟨h1, h2⟩
end
end K80
-- W_lacking_rings
set_option maxHeartbeats 4000000
namespace K80
open PySem PySem.Spec L2 VL
theorem sc_lacking_rings : FnScope ["deal", "arrows", "station", "named"] ["deal"] (defScope (top 54)) := ⟨rfl, rfl, rfl, by decide +kernel, rfl, by decide +kernel, by decide +kernel⟩
def C_lacking_rings (K : Fr) : Ctr := fun os Q E => ∃ (pss : Piles) (starts : List Int), os = [.st (dealD K pss starts)] ∧ NamesOk pss ∧ pss.length ≤ 40 ∧ total pss ≤ 1000 ∧ ∀ rs, SortedOf (ringsW (lackArr pss)) rs → Q (.st (.tup (rs.map tupI))) os
section
variable {P : Program} {w : World} {K : Fr} {mg : Str → Option Value} {base : Heap}
theorem ok_lacking_rings (T : Tx P w K mg base) : Ok P w K mg base "lacking_rings" ["deal"] 6 (C_lacking_rings K) := by
  have o_last_slips := ok_last_slips (P := P) (w := w) (base := base) T
  have o_pack_of := ok_pack_of (P := P) (w := w) (base := base) T
  have o_rings_of := ok_rings_of (P := P) (w := w) (base := base) T
  have sc : FnScope ["deal", "arrows", "station", "named"] ["deal"] (defScope (top 54)) := sc_lacking_rings
  refine ok_of [] T.d_lacking_rings sc (fun fd F => F.bindsN fun _ _ _ _ _ _ us hl => match us, hl with | [_], _ => rfl) (fun os Q E h => ?_) (fun cdv A outer s H G s0 E os Q1 E1 hr hc wx => ⟨_, _, (b_cons (s_set (i := 1) (by show 1 ∉ ([] : List Nat); decide) sc.nd rfl (by first | exact Or.inl rfl | exact Or.inr rfl) (v_list rfl T.b_list bt_list (a_cons (v_callO wx o_last_slips (hr.mono (by decide)) rfl (a_cons (vv 0) a_nil)) a_nil)))
  (b_cons (s_for wx.po wx.calm (i_enum rfl T.b_enumerate (a_cons (v_callO wx o_pack_of (hr.mono (by decide)) rfl (a_cons (vv 0) a_nil)) a_nil)) (g_tup (n := 2) (gs_cons (g_name (i := 2) (by show 2 ∉ ([] : List Nat); decide) sc.nd rfl (by first | exact Or.inl rfl | exact Or.inr rfl)) (gs_cons (g_name (i := 3) (by show 3 ∉ ([] : List Nat); decide) sc.nd rfl (by first | exact Or.inl rfl | exact Or.inr rfl)) gs_nil)) (fun h => pg_tup wx.calm h)) (b_one (s_if (t_gt (vv 3) (v_len rfl T.b_len (a_cons (v_ix (v_fld T.c_Deal T.na_Deal_piles (vv 0)) (vv 2)) a_nil))) (b_one (s_setIx (vv 1) (vv 2) v_non)) b_nil)))
  (b_one (s_ret (v_callO wx o_rings_of (hr.mono (by decide)) rfl (a_cons (v_frz 1 (vv 1)) a_nil)))))), ?_⟩)
  · obtain ⟨pss, starts, rfl, _⟩ := h; rfl
  · obtain ⟨pss, starts, rfl, hn, hz1, hz2, hq⟩ := hc
    dsimp!
    rw [seq_eq]
    dsimp!
    refine ⟨pss, starts, rfl, by omega, ?_⟩
    simp_all!
    rw [show pss.map lastD = (lackUpTo pss 0).map optD by unfold lackUpTo; rw [List.take_zero, List.drop_zero, List.nil_append, List.map_map]; exact List.map_congr_left fun ns _ => lastD_opt ns]
    refine r_for (e1 := [some (.st (dealD K pss starts)), some (.lst (((lackUpTo pss 0).map optD).map .st)), none, none])
      (fun m e => ∃ x2 x3, e = [some (.st (dealD K pss starts)), some (.lst (((lackUpTo pss m).map optD).map .st)), x2, x3]) pss.length (fun i => .tup [.int i, ((tally pss.length pss.flatten).map VL.D.int).getD i .non]) (fun Q q => by
        simp!
        refine ⟨pss, starts, rfl, by omega, hz2, hn, ?_⟩
        simp_all!
        rw [itm_tupI]
        simp only [List.length_map, tally_len]
        exact q) ⟨none, none, rfl⟩ (fun m e hm ⟨x2, x3, he⟩ => ?_) fun e ⟨x2, x3, he⟩ => ?_
    · subst he
      obtain ⟨ns, hns⟩ := get_lt hm
      rw [getD_int (tally_nat (row := pss.flatten) hm)]
      have a1 : L2.atI (pss.map tupI) (m : Int) = some (tupI ns) := by rw [atI_pos _ _ (by omega), List.getElem?_map, Int.toNat_natCast, hns]; rfl
      have hul : (lackUpTo pss m).length = pss.length := lackUp_len pss m (by omega)
      have a2 : ixN (lackUpTo pss m).length (m : Int) = some m := ixN_pos _ _ (by omega) (by omega)
      simp! [dealD, itm_pilesT pss, a1, gLenE (itm_tupI ns), a2]
      by_cases q : (ns.length : Int) < ((pss.flatten.count (m : Int) : Nat) : Int)
      · rw [decide_eq_true q]
        simp! [a2]
        rw [← lackUp_set hns q]
        simp only [List.map_set]
        exact ⟨_, _, rfl⟩
      · rw [decide_eq_false q]
        simp!
        rw [← lackUp_keep hns q]
        exact ⟨_, _, rfl⟩
    · subst he
      simp!
      rw [lackUp_end]
      refine ⟨_, _, rfl, rfl, by rw [lackArr_len]; exact hz1, lackArr_ok hn, fun rs hrs => ?_⟩
      simp_all!
      exact hq rs hrs
end
end K80
-- W_fewest_starts
set_option maxHeartbeats 4000000
namespace K80
open PySem PySem.Spec L2 VL
theorem sc_fewest_starts : FnScope ["piles", "deal"] ["piles"] (defScope (top 55)) := ⟨rfl, rfl, rfl, by decide +kernel, rfl, by decide +kernel, by decide +kernel⟩
def C_fewest_starts (K : Fr) : Ctr := fun os Q E => ∃ (pss : List (List Int)) (d1 : VL.D), os = [.st d1] ∧ PilesD d1 pss ∧
  res K E os (Q (.st (.int ((lackP pss).sum + ((ringsW (lackArr pss)).length : Nat)))) os) (chkDeal pss [])
section
variable {P : Program} {w : World} {K : Fr} {mg : Str → Option Value} {base : Heap}
theorem ok_fewest_starts (T : Tx P w K mg base) : Ok P w K mg base "fewest_starts" ["piles"] 7 (C_fewest_starts K) := by
  have o_make_deal := ok_make_deal (P := P) (w := w) (base := base) T
  have od_make_deal := okd_make_deal (P := P) (w := w) (base := base) T
  have o_lacks := ok_lacks (P := P) (w := w) (base := base) T
  have o_lacking_rings := ok_lacking_rings (P := P) (w := w) (base := base) T
  have sc : FnScope ["piles", "deal"] ["piles"] (defScope (top 55)) := sc_fewest_starts
  refine ok_of [] T.d_fewest_starts sc (fun fd F => F.bindsN fun _ _ _ _ _ _ us hl => match us, hl with | [_], _ => rfl) (fun os Q E h => ?_) (fun cdv A outer s H G s0 E os Q1 E1 hr hc wx => ⟨_, _, (b_cons (s_set (i := 1) (by show 1 ∉ ([] : List Nat); decide) sc.nd rfl (by first | exact Or.inl rfl | exact Or.inr rfl) (v_callD wx od_make_deal (hr.mono (by decide)) rfl (a_cons (vv 0) a_nil)).choose_spec)
  (b_one (s_ret (v_addA (v_sum wx.calm rfl T.b_sum (a_cons (v_callO wx o_lacks (hr.mono (by decide)) rfl (a_cons (v_frz 1 (vv 1)) a_nil)) a_nil)) (v_len rfl T.b_len (a_cons (v_callO wx o_lacking_rings (hr.mono (by decide)) rfl (a_cons (v_frz 1 (vv 1)) a_nil)) a_nil)))))), ?_⟩)
  · obtain ⟨pss, d1, rfl, _⟩ := h; rfl
  · obtain ⟨pss, d1, rfl, hp, hq⟩ := hc
    dsimp!
    rw [seq_eq]
    dsimp!
    refine ⟨pss, [], d1, _, _, rfl, hp, rfl, ?_⟩
    cases h1 : chkDeal pss [] with
    | some er =>
      rw [h1] at hq
      show erE _ _ _ er
      cases er <;> exact hq
    | none =>
      rw [h1] at hq
      show _
      unfold chkDeal at h1
      cases h2 : chkPiles pss with
      | some er => rw [h2] at h1; cases h1
      | none =>
        obtain ⟨p1, p2, p3, p4⟩ := chkPiles_names h2
        simp! [res]
        rw [frz_deal]
        refine ⟨pss, [], rfl, p4, by omega, by omega, ?_⟩
        simp_all!
        refine ⟨_, rfl, pss, [], rfl, p4, by omega, by omega, fun rs hrs => ?_⟩
        have hlen : rs.length = (ringsW (lackArr pss)).length := hrs.1.length_eq
        simp! [List.length_map, hlen]
        exact hq
end
end K80
-- W_best_starts
set_option maxHeartbeats 4000000
namespace K80
open PySem PySem.Spec L2 VL
theorem sc_best_starts : FnScope ["piles", "deal", "chosen", "ring", "station", "many"] ["piles"] (defScope (top 56)) := ⟨rfl, rfl, rfl, by decide +kernel, rfl, by decide +kernel, by decide +kernel⟩
def C_best_starts (K : Fr) : Ctr := fun os Q E => ∃ (pss : List (List Int)) (d1 : VL.D), os = [.st d1] ∧ PilesD d1 pss ∧
  res K E os (∀ out : List Int, out.Perm ((ringsW (lackArr pss)).map headI ++ lackL pss pss.length) → out.Pairwise (fun x y => x ≤ y) → Q (.st (tupI out)) os) (chkDeal pss [])
section
variable {P : Program} {w : World} {K : Fr} {mg : Str → Option Value} {base : Heap}
theorem ok_best_starts (T : Tx P w K mg base) : Ok P w K mg base "best_starts" ["piles"] 7 (C_best_starts K) := by
  have o_make_deal := ok_make_deal (P := P) (w := w) (base := base) T
  have od_make_deal := okd_make_deal (P := P) (w := w) (base := base) T
  have o_lacking_rings := ok_lacking_rings (P := P) (w := w) (base := base) T
  have o_lacks := ok_lacks (P := P) (w := w) (base := base) T
  have sc : FnScope ["piles", "deal", "chosen", "ring", "station", "many"] ["piles"] (defScope (top 56)) := sc_best_starts
  refine ok_of [] T.d_best_starts sc (fun fd F => F.bindsN fun _ _ _ _ _ _ us hl => match us, hl with | [_], _ => rfl) (fun os Q E h => ?_) (fun cdv A outer s H G s0 E os Q1 E1 hr hc wx => ⟨_, _, (b_cons (s_set (i := 1) (by show 1 ∉ ([] : List Nat); decide) sc.nd rfl (by first | exact Or.inl rfl | exact Or.inr rfl) (v_callD wx od_make_deal (hr.mono (by decide)) rfl (a_cons (vv 0) a_nil)).choose_spec)
  (b_cons (sSetLc (i := 2) (own := [("ring", 3)]) (by show 2 ∉ ([] : List Nat); decide) wx.calm sc.nd rfl rfl (sw_true rfl rfl rfl (by decide +kernel)) rfl (by show ∀ v ∈ ([3] : List Nat), v ∉ ([] : List Nat); decide) (by decide) (i_seq (v_callO wx o_lacking_rings (hr.mono (by decide)) rfl (a_cons (v_frz 1 (vv 1)) a_nil))) (blkOk_by (by show blkC ["piles", "deal", "chosen", "ring", "station", "many"] (defScope (top 56)) _ _ = true; decide +kernel)) (fun _ _ _ _ _ => ⟨_, (g_name (i := 3) (by show 3 ∉ ([] : List Nat); decide) sc.nd rfl (by first | exact Or.inl rfl | exact Or.inr rfl))⟩) (fun _ _ _ _ _ => ⟨_, ts_nil⟩) (fun _ _ _ _ _ => ⟨_, (v_ix (vv 3) v_int)⟩))
  (b_cons (s_for wx.po wx.calm (i_enum rfl T.b_enumerate (a_cons (v_callO wx o_lacks (hr.mono (by decide)) rfl (a_cons (v_frz 1 (vv 1)) a_nil)) a_nil)) (g_tup (n := 2) (gs_cons (g_name (i := 4) (by show 4 ∉ ([] : List Nat); decide) sc.nd rfl (by first | exact Or.inl rfl | exact Or.inr rfl)) (gs_cons (g_name (i := 5) (by show 5 ∉ ([] : List Nat); decide) sc.nd rfl (by first | exact Or.inl rfl | exact Or.inr rfl)) gs_nil)) (fun h => pg_tup wx.calm h)) (b_one (s_ext (vv 2) (v_mulA (v_lst (a_cons (vv 4) a_nil)) (vv 5)))))
  (b_one (s_ret (v_tuple rfl T.b_tuple bt_tuple (a_cons (v_sorted rfl T.b_sorted bt_sorted (a_cons (vv 2) a_nil)) a_nil))))))), ?_⟩)
  · obtain ⟨pss, d1, rfl, _⟩ := h; rfl
  · obtain ⟨pss, d1, rfl, hp, hq⟩ := hc
    dsimp!
    rw [seq_eq]
    dsimp!
    refine ⟨pss, [], d1, _, _, rfl, hp, rfl, ?_⟩
    cases h1 : chkDeal pss [] with
    | some er =>
      rw [h1] at hq
      show erE _ _ _ er
      cases er <;> exact hq
    | none =>
      rw [h1] at hq
      show _
      unfold chkDeal at h1
      cases h2 : chkPiles pss with
      | some er => rw [h2] at h1; cases h1
      | none =>
        obtain ⟨p1, p2, p3, p4⟩ := chkPiles_names h2
        dsimp! [res]
        rw [seq_eq]
        dsimp!
        simp! [sLc]
        rw [frz_deal]
        refine ⟨pss, [], rfl, p4, by omega, by omega, fun rs hrs => ?_⟩
        simp_all!
        have hok := lackArr_ok p4
        have hrl : rs.length ≤ 40 := by have := ringsW_few hok; rw [lackArr_len] at this; have := hrs.1.length_eq; omega
        refine ⟨fun m acc e => e = [some (.st d1), some (.st (dealD K pss [])), none, none, none, none] ∧ acc = ((rs.take m).map headI).map .int, ⟨rfl, rfl⟩, fun m acc e hm ⟨he, ha⟩ => ?_, fun acc e ⟨he, ha⟩ => ?_⟩
        · subst he ha
          obtain ⟨r, hr'⟩ := get_lt hm
          have hne : r ≠ [] := ringsW_ne hok r (hrs.1.mem_iff.mp (List.mem_of_getElem? hr'))
          have a1 : L2.atI (r.map VL.D.int) 0 = some (.int (headI r)) := by
            cases r with
            | nil => exact absurd rfl hne
            | cons y r => rw [atI_pos _ _ (by decide)]; rfl
          rw [getD_tupI hr']
          simp! [itm_tupI r, a1]
          refine ⟨szLt (by rw [List.length_take]; omega), ?_⟩
          rw [take_snoc hr', List.map_append, List.map_append]; rfl
        · subst he ha
          dsimp! [List.take_length]
          have hll : (lackP pss).length = pss.length := lackP_len pss
          refine r_for (e1 := [some (.st d1), some (.st (dealD K pss [])), some (.lst (((rs.map headI).map VL.D.int).map .st)), none, none, none])
            (fun m e => ∃ x4 x5, e = [some (.st d1), some (.st (dealD K pss [])), some (.lst (((rs.map headI ++ lackL pss m).map VL.D.int).map .st)), none, x4, x5]) pss.length (fun i => .tup [.int i, ((lackP pss).map VL.D.int).getD i .non]) (fun Q q => by
              simp!
              refine ⟨pss, [], rfl, p4, by omega, by omega, ?_⟩
              simp_all!
              simp only [List.length_map, hll]
              exact q) ⟨none, none, by show _ = [_, _, some (OD.lst (((rs.map headI ++ []).map VL.D.int).map .st)), _, _, _]; rw [List.append_nil]⟩ (fun m e hm ⟨x4, x5, he⟩ => ?_) fun e ⟨x4, x5, he⟩ => ?_
          · subst he
            have a1 : ((lackP pss).map VL.D.int).getD m .non = .int ((lackP pss).getD m 0) := getD_int (by rw [List.getD_eq_getElem?_getD, List.getElem?_eq_getElem (by omega)]; rfl)
            rw [a1]
            have hs := lackL_short pss (m := m + 1) (by omega)
            have e1 : lackL pss (m + 1) = lackL pss m ++ List.replicate ((lackP pss).getD m 0).toNat (m : Int) := rfl
            rw [e1, List.length_append, List.length_replicate] at hs
            have v0 : 0 ≤ (lackP pss).getD m 0 := by rw [lackP_at hm]; omega
            generalize (lackP pss).getD m 0 = c at hs e1 v0 ⊢
            simp! [repD_one, List.length_map, List.length_replicate, List.length_append]
            refine ⟨szOk (by omega), ⟨by omega, by omega, szOk (by omega)⟩, szOk (by omega), some (.st (.int m)), some (.st (.int c)), ?_⟩
            rw [e1, ← List.append_assoc]
            simp only [List.map_append, List.map_replicate]
          · subst he
            simp!
            refine ⟨_, rfl, fun ns' hp' hs' => ?_⟩
            simp_all!
            refine hq ns' (hp'.trans ?_) hs'
            exact (hrs.1.map headI).append_right _
end
end K80
-- W_take_step
set_option maxHeartbeats 4000000
namespace K80
open PySem PySem.Spec L2 VL
theorem sc_take_step : FnScope ["piles", "taken", "stand", "j", "v", "w"] ["piles", "taken", "stand", "j"] (defScope (top 49)) := ⟨rfl, rfl, rfl, by decide +kernel, rfl, by decide +kernel, by decide +kernel⟩
def C_take_step (K : Fr) : Ctr := fun os Q E => ∃ (pss : Piles) (u st : List Int) (d1 : VL.D) (j : Nat) (v w : Int), os = [.st d1, .lst ((u.map VL.D.int).map .st), .lst ((st.map VL.D.int).map .st), .st (.int (j : Int))] ∧ PilesD d1 pss ∧ UsedOk pss u ∧ total pss ≤ 1000 ∧ st[j]? = some v ∧ InN pss v ∧ nextS pss u v = some w ∧
  Q (.st (tupI [(j : Int), v, w])) [.st d1, .lst (((u.set v.toNat (usedAt u v + 1)).map VL.D.int).map .st), .lst (((st.set j w).map VL.D.int).map .st), .st (.int (j : Int))]
section
variable {P : Program} {w : World} {K : Fr} {mg : Str → Option Value} {base : Heap}
theorem ok_take_step (T : Tx P w K mg base) : Ok P w K mg base "take_step" ["piles", "taken", "stand", "j"] 3 (C_take_step K) := by
  have sc : FnScope ["piles", "taken", "stand", "j", "v", "w"] ["piles", "taken", "stand", "j"] (defScope (top 49)) := sc_take_step
  refine ok_of [1, 2] T.d_take_step sc (fun fd F => F.bindsN fun _ _ _ _ _ _ us hl => match us, hl with | [_, _, _, _], _ => rfl) (fun os Q E h => ?_) (fun cdv A outer s H G s0 E os Q1 E1 hr hc wx => ⟨_, _, (b_cons (s_set (i := 4) (by show 4 ∉ ([1, 2] : List Nat); decide) sc.nd rfl (by first | exact Or.inl rfl | exact Or.inr rfl) (v_ix (vv 2) (vv 3)))
  (b_cons (s_set (i := 5) (by show 5 ∉ ([1, 2] : List Nat); decide) sc.nd rfl (by first | exact Or.inl rfl | exact Or.inr rfl) (v_ix (v_ix (vv 0) (vv 4)) (v_ix (vv 1) (vv 4))))
  (b_cons (s_setIx (vv 1) (vv 4) (v_addA (v_ix (vv 1) (vv 4)) v_int))
  (b_cons (s_setIx (vv 2) (vv 3) (vv 5))
  (b_one (s_ret (v_tup (a_cons (vv 3) (a_cons (vv 4) (a_cons (vv 5) a_nil)))))))))), ?_⟩)
  · obtain ⟨pss, u, st, d1, j, v, w', rfl, _⟩ := h; rfl
  · obtain ⟨pss, u, st, d1, j, v, w', rfl, ⟨b1, ds, hd, hr⟩, hu, hz, hs, hv, hw, hq⟩ := hc
    have hl := hr.length
    have hj : j < st.length := (List.getElem?_eq_some_iff.mp hs).1
    have a1 : L2.atI (st.map VL.D.int) (j : Int) = some (.int v) := map_at (by omega) (by simpa using hs)
    obtain ⟨dp, bp, h2, h3⟩ := hr.get (pileAt_get hv)
    have a2 : L2.atI ds v = some dp := by rw [atI_pos _ _ hv.1]; exact h2
    have a3 : L2.atI (u.map VL.D.int) v = some (.int (usedAt u v)) := map_at hv.1 (usedAt_get hu.1 hv)
    obtain ⟨u0', u1'⟩ := hu.at hv
    have hul : u.length = pss.length := hu.1
    have a4 : L2.atI ((pileAt pss v).map VL.D.int) (usedAt u v) = some (.int w') := map_at u0' hw
    have a5 : ixN u.length v = some v.toNat := ixN_pos _ _ hv.1 (by have := hv.2; omega)
    have a6 : ixN st.length (j : Int) = some j := ixN_pos _ _ (by omega) (by omega)
    have hle := pile_le hv
    simp! [a1, hd, a2, a3, h3, a4, a5, a6]
    exact ⟨szOk (by omega), hq⟩
end
end K80
-- W_run
set_option maxHeartbeats 4000000
namespace K80
open PySem PySem.Spec L2 VL
theorem sc_run : FnScope ["deal", "steps", "piles", "taken", "stand", "log", "j"] ["deal", "steps"] (defScope (top 50)) := ⟨rfl, rfl, rfl, by decide +kernel, rfl, by decide +kernel, by decide +kernel⟩
def C_run (K : Fr) : Ctr := fun os Q E => ∃ (pss : Piles) (starts : List Int), os = [.st (dealD K pss starts), .st .non] ∧ NamesOk pss ∧ pss.length ≤ 1000 ∧ total pss ≤ 1000 ∧ starts.length ≤ 1000 ∧ (∀ x ∈ starts, InN pss x) ∧
  Q (.st (.tup [.tup ((runP pss starts).1.map tupI), tupI (runP pss starts).2.1, tupI (runP pss starts).2.2])) os
section
variable {P : Program} {w : World} {K : Fr} {mg : Str → Option Value} {base : Heap}
theorem okf_run (T : Tx P w K mg base) : Okf P w K mg base "run" (top 50) [] [("steps", .non)] ["deal", "steps"] 4 (C_run K) := by
  have o_take_step := ok_take_step (P := P) (w := w) (base := base) T
  have sc : FnScope ["deal", "steps", "piles", "taken", "stand", "log", "j"] ["deal", "steps"] (defScope (top 50)) := sc_run
  refine okf_of [] T.d_run sc (fun os Q E h => ?_) (fun cdv A outer s H G s0 E os Q1 E1 hr hc wx => ⟨_, _, (b_cons (s_if (t_w (w_and (t_notN (vv 1) v_non) (w_and1 (t_lt (vv 1) v_int)))) (b_one s_never) b_nil)
  (b_cons (s_set (i := 2) (by show 2 ∉ ([] : List Nat); decide) sc.nd rfl (by first | exact Or.inl rfl | exact Or.inr rfl) (v_fld T.c_Deal T.na_Deal_piles (vv 0)))
  (b_cons (s_set (i := 3) (by show 3 ∉ ([] : List Nat); decide) sc.nd rfl (by first | exact Or.inl rfl | exact Or.inr rfl) (v_mulA (v_lst (a_cons v_int a_nil)) (v_len rfl T.b_len (a_cons (vv 2) a_nil))))
  (b_cons (s_set (i := 4) (by show 4 ∉ ([] : List Nat); decide) sc.nd rfl (by first | exact Or.inl rfl | exact Or.inr rfl) (v_list rfl T.b_list bt_list (a_cons (v_fld T.c_Deal T.na_Deal_starts (vv 0)) a_nil)))
  (b_cons (s_set (i := 5) (by show 5 ∉ ([] : List Nat); decide) sc.nd rfl (by first | exact Or.inl rfl | exact Or.inr rfl) (v_lst a_nil))
  (b_cons (s_for wx.po wx.calm (i_rng1 rfl T.b_range (a_cons (v_len rfl T.b_len (a_cons (vv 4) a_nil)) a_nil)) (g_name (i := 6) (by show 6 ∉ ([] : List Nat); decide) sc.nd rfl (by first | exact Or.inl rfl | exact Or.inr rfl)) (b_one (s_while wx.po (t_lt (v_ix (vv 3) (v_ix (vv 4) (vv 6))) (v_len rfl T.b_len (a_cons (v_ix (vv 2) (v_ix (vv 4) (vv 6))) a_nil))) (b_cons (s_if (t_w (w_and (t_notN (vv 1) v_non) (w_and1 (t_ge (v_len rfl T.b_len (a_cons (vv 5) a_nil)) (vv 1))))) (b_one (s_ret (v_tup (a_cons (v_tuple rfl T.b_tuple bt_tuple (a_cons (vv 5) a_nil)) (a_cons (v_tuple rfl T.b_tuple bt_tuple (a_cons (vv 3) a_nil)) (a_cons (v_tuple rfl T.b_tuple bt_tuple (a_cons (vv 4) a_nil)) a_nil)))))) b_nil)
  (b_one (s_app (vv 5) (v_callO wx o_take_step (hr.mono (by decide)) rfl (a_cons (vv 2) (a_cons (vv 3) (a_cons (vv 4) (a_cons (vv 6) a_nil)))))))))))
  (b_one (s_ret (v_tup (a_cons (v_tuple rfl T.b_tuple bt_tuple (a_cons (vv 5) a_nil)) (a_cons (v_tuple rfl T.b_tuple bt_tuple (a_cons (vv 3) a_nil)) (a_cons (v_tuple rfl T.b_tuple bt_tuple (a_cons (vv 4) a_nil)) a_nil)))))))))))), ?_⟩)
  · obtain ⟨pss, starts, rfl, _⟩ := h; rfl
  · obtain ⟨pss, starts, rfl, hn, hz1, hz2, hz3, hx, hq⟩ := hc
    dsimp!
    rw [seq_eq]
    dsimp! [dealD]
    rw [seq_eq]
    dsimp! [dealD, gLenE (itm_pilesT pss), List.length_map]
    rw [seq_eq]
    dsimp! [gLenE (itm_pilesT pss), List.length_map, repD_one, Int.toNat_natCast]
    refine ⟨szOk (by omega), ⟨by omega, by omega, szOk (by omega)⟩, ?_⟩
    rw [seq_eq]
    dsimp! [itm_tupI starts]
    rw [seq_eq]
    dsimp!
    rw [seq_eq]
    refine ⟨szOk (by omega), ?_⟩
    rw [show List.replicate pss.length (VL.D.int 0) = (run0 pss).2.1.map VL.D.int from List.map_replicate.symm]
    refine r_for (e1 := [some (.st (.ins (He.ga K "Deal") [("piles", pilesT pss), ("starts", tupI starts)])), some (.st .non), some (.st (pilesT pss)), some (.lst (((run0 pss).2.1.map VL.D.int).map .st)), some (.lst ((starts.map VL.D.int).map .st)), some (.lst []), none])
      (fun m e => ∃ x6, e = [some (.st (.ins (He.ga K "Deal") [("piles", pilesT pss), ("starts", tupI starts)])), some (.st .non), some (.st (pilesT pss)), some (.lst (((runL pss (total pss + 1) 0 (starts.take m) (run0 pss)).2.1.map VL.D.int).map .st)), some (.lst ((((runL pss (total pss + 1) 0 (starts.take m) (run0 pss)).2.2 ++ starts.drop m).map VL.D.int).map .st)), some (.lst (((runL pss (total pss + 1) 0 (starts.take m) (run0 pss)).1.map tupI).map .st)), x6]) starts.length _ (fun Q q => by
          simp! [List.length_map]
          exact ⟨⟨by omega, by omega⟩, by simpa using q⟩) ⟨none, rfl⟩ (fun m e hm ⟨x6, he⟩ => ?_) fun e ⟨x6, he⟩ => ?_
    · subst he
      obtain ⟨y, hy⟩ := get_lt (l := starts) (m := m) (by omega)
      have hyn := hx y (List.mem_of_getElem? hy)
      obtain ⟨su, ss, sl⟩ := runL_ok (fuel := total pss + 1) hn (starts.take m) 0 (run0 pss) (fun x h => hx x (List.mem_of_mem_take h)) (used_zero pss) (fun x h => nomatch h)
      have ssum := runL_sum (fuel := total pss + 1) hn (starts.take m) 0 (run0 pss) (fun x h => hx x (List.mem_of_mem_take h)) (used_zero pss)
      have snoc := runL_snoc pss (total pss + 1) (starts.take m) 0 (run0 pss) y
      rw [← take_snoc hy, show (0 + (starts.take m).length : Nat) = m by rw [List.length_take]; omega] at snoc
      have hdrop : starts.drop m = y :: starts.drop (m + 1) := by
        obtain ⟨h1, h2⟩ := List.getElem?_eq_some_iff.mp hy
        rw [List.drop_eq_getElem_cons h1, h2]
      rw [hdrop]
      generalize runL pss (total pss + 1) 0 (starts.take m) (run0 pss) = S at su ss sl ssum snoc ⊢
      obtain ⟨l0, u0, st0⟩ := S
      rw [show (run0 pss).1.length + left pss (run0 pss).2.1 = total pss by rw [show (run0 pss).2.1 = List.replicate pss.length 0 from rfl, left_zero]; exact Nat.zero_add _] at ssum
      rw [show (run0 pss).2.2.length = 0 from rfl, List.length_take] at sl
      simp only [] at su ss sl ssum snoc
      have hS : runL pss (total pss + 1) 0 (starts.take (m + 1)) (run0 pss) = ((hop pss m (total pss + 1) (l0, u0, y)).1, (hop pss m (total pss + 1) (l0, u0, y)).2.1, st0 ++ [(hop pss m (total pss + 1) (l0, u0, y)).2.2]) := by
        rw [snoc]; rfl
      rw [hS]
      clear hS snoc
      have hsm : st0.length = m := by omega
      dsimp!
      generalize hF : hop pss m (total pss + 1) (l0, u0, y) = F
      refine r_while (fun n e => ∃ (l : List (List Int)) (u : List Int) (v : Int), e = [some (.st (.ins (He.ga K "Deal") [("piles", pilesT pss), ("starts", tupI starts)])), some (.st .non), some (.st (pilesT pss)), some (.lst ((u.map VL.D.int).map .st)), some (.lst (((st0 ++ v :: starts.drop (m + 1)).map VL.D.int).map .st)), some (.lst ((l.map tupI).map .st)), some (.st (.int m))] ∧ UsedOk pss u ∧ InN pss v ∧ hop pss m n (l, u, v) = F ∧ left pss u < n ∧ l.length + left pss u = total pss) (total pss + 1)
        ⟨l0, u0, y, rfl, su, hyn, hF, by omega, ssum⟩ (fun n e ⟨l, u, v, he, hu, hv, hop_, hlt, hsum⟩ => ?_)
      subst he
      have hsv : (st0 ++ v :: starts.drop (m + 1))[m]? = some v := by
        rw [List.getElem?_append_right (by omega), hsm, Nat.sub_self]; rfl
      have hst : ∀ w', (st0 ++ v :: starts.drop (m + 1)).set m w' = st0 ++ w' :: starts.drop (m + 1) := fun w' => by
        rw [List.set_append_right _ _ (by omega), hsm, Nat.sub_self]; rfl
      have a1 : L2.atI ((st0 ++ v :: starts.drop (m + 1)).map VL.D.int) (m : Int) = some (.int v) := map_at (by omega) (by simpa using hsv)
      obtain ⟨b1, ds, hd, hr⟩ := pilesT_ok pss
      obtain ⟨dp, bp, h2, h3⟩ := hr.get (pileAt_get hv)
      have a2 : L2.atI ds v = some dp := by rw [atI_pos _ _ hv.1]; exact h2
      have a3 : L2.atI (u.map VL.D.int) v = some (.int (usedAt u v)) := map_at hv.1 (usedAt_get hu.1 hv)
      dsimp! [hd, a1, a2, a3, gLenE h3, List.length_map]
      by_cases q : usedAt u v < (pileAt pss v).length
      · rw [decide_eq_true (by omega)]
        obtain ⟨w', hw⟩ := (next_iff hu hv).mp q
        have hls := left_step hu hv hw
        simp!
        refine ⟨pss, u, st0 ++ v :: starts.drop (m + 1), pilesT pss, m, v, w', rfl, pilesT_ok pss, hu, hz2, hsv, hv, hw, ?_⟩
        simp!
        rw [hst w']
        match n, hlt, hop_ with
        | 0, hlt, _ => exact absurd hlt (by omega)
        | n + 1, hlt, hop_ =>
          rw [hop_step hw] at hop_
          refine ⟨szLt (by omega), n, by omega, l ++ [[(m : Int), v, w']], u.set v.toNat (usedAt u v + 1), w', ?_, hu.step hv hw, next_in hn hv hw, hop_, by omega, ?_⟩
          · simp only [List.map_append]; rfl
          · rw [List.length_append, List.length_singleton]; omega
      · rw [decide_eq_false (by omega)]
        rw [hop_stop (next_none hu hv q)] at hop_
        rw [← hop_]
        simp!
        refine ⟨some (.st (.int m)), ?_⟩
        simp only [List.append_assoc]
        rfl
    · subst he
      simp! [List.take_length, List.drop_length, List.append_nil]
      exact ⟨szOk (by omega), hq⟩
theorem okd_run (T : Tx P w K mg base) : OkD P w K mg base "run" ["deal", "steps"] 4 (C_run K) [.non] :=
  (okf_run T).dfl [.non] [.non] (fun S => .cons .non .nil) fun fd F => F.binds0 1 (by simp) rfl fun D doc pm an cdv ct us ks hl hk => match us, ks, hl, hk with | [_], [_], _, _ => ⟨_, _, _, _, _, _, rfl, rfl, rfl⟩
end
end K80
-- W_comes_out
set_option maxHeartbeats 4000000
namespace K80
open PySem PySem.Spec L2 VL
theorem sc_comes_out : FnScope ["deal", "pile"] ["deal"] (defScope (top 51)) := ⟨rfl, rfl, rfl, by decide +kernel, rfl, by decide +kernel, by decide +kernel⟩
def C_comes_out (K : Fr) : Ctr := fun os Q E => ∃ (pss : Piles) (starts : List Int), os = [.st (dealD K pss starts)] ∧ NamesOk pss ∧ pss.length ≤ 1000 ∧ total pss ≤ 1000 ∧ starts.length ≤ 1000 ∧ (∀ x ∈ starts, InN pss x) ∧
  Q (.st (.bl (decide ((runP pss starts).1.length = total pss)))) os
section
variable {P : Program} {w : World} {K : Fr} {mg : Str → Option Value} {base : Heap}
theorem ok_comes_out (T : Tx P w K mg base) : Ok P w K mg base "comes_out" ["deal"] 5 (C_comes_out K) := by
  have od_run := okd_run (P := P) (w := w) (base := base) T
  have sc : FnScope ["deal", "pile"] ["deal"] (defScope (top 51)) := sc_comes_out
  refine ok_of [] T.d_comes_out sc (fun fd F => F.bindsN fun _ _ _ _ _ _ us hl => match us, hl with | [_], _ => rfl) (fun os Q E h => ?_) (fun cdv A outer s H G s0 E os Q1 E1 hr hc wx => ⟨_, _, (b_one (s_ret (v_eq hr.units (v_len rfl T.b_len (a_cons (v_ix (v_callD wx od_run (hr.mono (by decide)) rfl (a_cons (vv 0) a_nil)).choose_spec v_int) a_nil)) (v_sum wx.calm rfl T.b_sum (a_cons (vLc (own := [("pile", 1)]) wx.calm sc.nd rfl (by show ∀ v ∈ ([1] : List Nat), v ∉ ([] : List Nat); decide) (by decide) (i_seq (v_fld T.c_Deal T.na_Deal_piles (vv 0))) (blkOk_by (by show blkC ["deal", "pile"] (defScope (top 51)) _ _ = true; decide +kernel)) (fun _ _ _ _ _ => ⟨_, (g_name (i := 1) (by show 1 ∉ ([] : List Nat); decide) sc.nd rfl (by first | exact Or.inl rfl | exact Or.inr rfl))⟩) (fun _ _ _ _ _ => ⟨_, ts_nil⟩) (fun _ _ _ _ _ => ⟨_, (v_len rfl T.b_len (a_cons (vv 1) a_nil))⟩)) a_nil))))), ?_⟩)
  · obtain ⟨pss, starts, rfl, _⟩ := h; rfl
  · obtain ⟨pss, starts, rfl, hn, hz1, hz2, hz3, hx, hq⟩ := hc
    simp!
    refine ⟨pss, starts, rfl, hn, hz1, hz2, hz3, hx, ?_⟩
    simp_all!
    refine r_lc (e1 := [some (.st (dealD K pss starts)), none]) (fun m acc e => e = [some (.st (dealD K pss starts)), none] ∧ acc = ((pss.take m).map fun ns => (ns.length : Int)).map .int) pss.length _ (fun Q q => by
      simp! [dealD, items_itm (itm_pilesT pss)]
      exact q) ⟨rfl, rfl⟩ (fun m acc e hm ⟨he, ha⟩ => ?_) fun acc e ⟨he, ha⟩ => ?_
    · subst he ha
      obtain ⟨ns, hns⟩ := get_lt hm
      rw [getD_tupI hns]
      simp! [gLenE (itm_tupI ns)]
      refine ⟨szLt (by rw [List.length_take]; omega), ?_⟩
      rw [take_snoc hns, List.map_append, List.map_append]; rfl
    · subst he ha
      simp! [List.take_length]
      refine ⟨_, rfl, ?_⟩
      rw [sum_len pss]
      rw [show decide ((((runP pss starts).1.length : Nat) : Int) = (((pss.map List.length).sum : Nat) : Int)) = decide ((runP pss starts).1.length = total pss) from decide_eq_decide.mpr (by unfold total; omega)]
      exact hq
end
end K80
-- W_judge_starts
set_option maxHeartbeats 4000000
namespace K80
open PySem PySem.Spec L2 VL
theorem sc_judge_starts : FnScope ["piles", "starts"] ["piles", "starts"] (defScope (top 57)) := ⟨rfl, rfl, rfl, by decide +kernel, rfl, by decide +kernel, by decide +kernel⟩
def C_judge_starts (K : Fr) : Ctr := fun os Q E => ∃ (pss : List (List Int)) (starts : List Int) (d1 d2 : VL.D) (b2 : Bool), os = [.st d1, .st d2] ∧ PilesD d1 pss ∧ d2.itm = some (b2, starts.map .int) ∧
  res K E os (Q (.st (.bl (decide ((runP pss starts).1.length = total pss)))) os) (chkDeal pss starts)
section
variable {P : Program} {w : World} {K : Fr} {mg : Str → Option Value} {base : Heap}
theorem ok_judge_starts (T : Tx P w K mg base) : Ok P w K mg base "judge_starts" ["piles", "starts"] 7 (C_judge_starts K) := by
  have o_comes_out := ok_comes_out (P := P) (w := w) (base := base) T
  have o_make_deal := ok_make_deal (P := P) (w := w) (base := base) T
  have sc : FnScope ["piles", "starts"] ["piles", "starts"] (defScope (top 57)) := sc_judge_starts
  refine ok_of [] T.d_judge_starts sc (fun fd F => F.bindsN fun _ _ _ _ _ _ us hl => match us, hl with | [_, _], _ => rfl) (fun os Q E h => ?_) (fun cdv A outer s H G s0 E os Q1 E1 hr hc wx => ⟨_, _, (b_one (s_ret (v_callO wx o_comes_out (hr.mono (by decide)) rfl (a_cons (v_fz (v_callO wx o_make_deal (hr.mono (by decide)) rfl (a_cons (vv 0) (a_cons (vv 1) a_nil)))) a_nil)))), ?_⟩)
  · obtain ⟨pss, starts, d1, d2, b2, rfl, _⟩ := h; rfl
  · obtain ⟨pss, starts, d1, d2, b2, rfl, hp, hd2, hq⟩ := hc
    simp!
    refine ⟨pss, starts, d1, d2, b2, rfl, hp, hd2, ?_⟩
    cases h1 : chkDeal pss starts with
    | some er =>
      rw [h1] at hq
      show erE _ _ _ er
      cases er <;> exact hq
    | none =>
      rw [h1] at hq
      show _
      simp! [res]
      rw [frz_deal]
      unfold chkDeal at h1
      cases h2 : chkPiles pss with
      | some er => rw [h2] at h1; cases h1
      | none =>
        rw [h2] at h1
        obtain ⟨p1, p2, p3, p4⟩ := chkPiles_names h2
        obtain ⟨r1, r2⟩ := chkRow_ok h1
        refine ⟨pss, starts, rfl, p4, by omega, by omega, by omega, r2, ?_⟩
        simp_all!
        exact hq
end
end K80
-- W_law_class_of
set_option maxHeartbeats 4000000
namespace K80
open PySem PySem.Spec L2 VL
theorem sc_law_class_of : FnScope ["e", "told", "names", "found", "k"] ["e"] (defScope (top 72)) := ⟨rfl, rfl, rfl, by decide +kernel, rfl, by decide +kernel, by decide +kernel⟩
def C_law_class_of (K : Fr) : CtrE := fun a c fs os Q => ∃ x, os = [.st (.kls a)] ∧ x ∈ RAISED ∧ c = He.ga K x ∧ Q (.st (.str x))
section
variable {P : Program} {w : World} {K : Fr} {mg : Str → Option Value} {base : Heap}
theorem ok_law_class_of (T : Tx P w K mg base) : OkE P w K mg base "_law_class_of" ["e"] 3 (C_law_class_of K) := by
  have sc : FnScope ["e", "told", "names", "found", "k"] ["e"] (defScope (top 72)) := sc_law_class_of
  refine okE_of T.d_law_class_of sc (fun fd F => F.bindsN fun _ _ _ _ _ _ us hl => match us, hl with | [_], _ => rfl) (fun a c fs os Q h => ?_) (fun cdv A outer s H G s0 E p a c fs os Q1 hr hc hx => ?_)
  · obtain ⟨x, rfl, _⟩ := h; rfl
  · obtain ⟨x, rfl, hxr, rfl, hq⟩ := hc
    have he : ExcC K (He.ga K x) := T.e_all x hxr
    have hxa : x ∈ ALLX := raised_all x hxr
    have k : ∀ y ∈ ALLX, PySem.W.kitOne K (.ref (He.ga K x)) (.ref (He.ga K y)) = some (x == y) := T.r_kit x hxr
    have kv := T.r_ve x hxr
    refine ⟨_, _, (b_cons (s_set (i := 1) (by show 1 ∉ ([] : List Nat); decide) sc.nd rfl (by first | exact Or.inl rfl | exact Or.inr rfl) (v_lst (a_cons (v_isXP hx he rfl T.b_isinstance (a_cons (vv 0) (a_cons (v_cls rfl T.m_BadText) a_nil))) (a_cons (v_isXP hx he rfl T.b_isinstance (a_cons (vv 0) (a_cons (v_cls rfl T.m_Malformed) a_nil))) (a_cons (v_isXP hx he rfl T.b_isinstance (a_cons (vv 0) (a_cons (v_cls rfl T.m_BadStation) a_nil))) (a_cons (v_isXP hx he rfl T.b_isinstance (a_cons (vv 0) (a_cons (v_cls rfl T.m_BadPlace) a_nil))) a_nil))))))
  (b_cons (s_set (i := 1) (by show 1 ∉ ([] : List Nat); decide) sc.nd rfl (by first | exact Or.inl rfl | exact Or.inr rfl) (v_addA (vv 1) (v_lst (a_cons (v_isXP hx he rfl T.b_isinstance (a_cons (vv 0) (a_cons (v_cls rfl T.m_BadNumber) a_nil))) (a_cons (v_isXP hx he rfl T.b_isinstance (a_cons (vv 0) (a_cons (v_cls rfl T.m_TooMany) a_nil))) (a_cons (v_isXP hx he rfl T.b_isinstance (a_cons (vv 0) (a_cons (v_cls rfl T.m_Empty) a_nil))) (a_cons (v_isXP hx he rfl T.b_isinstance (a_cons (vv 0) (a_cons (v_cls rfl T.m_Unframed) a_nil))) a_nil)))))))
  (b_cons (s_set (i := 1) (by show 1 ∉ ([] : List Nat); decide) sc.nd rfl (by first | exact Or.inl rfl | exact Or.inr rfl) (v_addA (vv 1) (v_lst (a_cons (v_isXP hx he rfl T.b_isinstance (a_cons (vv 0) (a_cons (v_cls rfl T.m_NotPack) a_nil))) (a_cons (v_isXP hx he rfl T.b_isinstance (a_cons (vv 0) (a_cons (v_cls rfl T.m_Unlike) a_nil))) (a_cons (v_isXP hx he rfl T.b_isinstance (a_cons (vv 0) (a_cons (v_cls rfl T.m_Stuck) a_nil))) (a_cons (v_isXP hx he rfl T.b_isinstance (a_cons (vv 0) (a_cons (v_cls rfl T.m_NothingBack) a_nil))) a_nil)))))))
  (b_cons (s_set (i := 1) (by show 1 ∉ ([] : List Nat); decide) sc.nd rfl (by first | exact Or.inl rfl | exact Or.inr rfl) (v_addA (vv 1) (v_lst (a_cons (v_isXP hx he rfl T.b_isinstance (a_cons (vv 0) (a_cons (v_cls rfl T.m_LeftOver) a_nil))) (a_cons (v_isXP hx he rfl T.b_isinstance (a_cons (vv 0) (a_cons (v_cls rfl T.m_NotTrail) a_nil))) (a_cons (v_isXP hx he rfl T.b_isinstance (a_cons (vv 0) (a_cons (v_cls rfl T.m_Blocked) a_nil))) (a_cons (v_isXP hx he rfl T.b_isinstance (a_cons (vv 0) (a_cons (v_cls rfl T.m_Unnamed) a_nil))) a_nil)))))))
  (b_cons (s_set (i := 1) (by show 1 ∉ ([] : List Nat); decide) sc.nd rfl (by first | exact Or.inl rfl | exact Or.inr rfl) (v_addA (vv 1) (v_lst (a_cons (v_isXP hx he rfl T.b_isinstance (a_cons (vv 0) (a_cons (v_cls rfl T.m_Opened) a_nil))) (a_cons (v_isXP hx he rfl T.b_isinstance (a_cons (vv 0) (a_cons (v_cls rfl T.m_Missing) a_nil))) (a_cons (v_isXP hx he rfl T.b_isinstance (a_cons (vv 0) (a_cons (v_cls rfl T.m_NotLocal) a_nil))) (a_cons (v_isXP hx he rfl T.b_isinstance (a_cons (vv 0) (a_cons (v_cls rfl T.m_NoPlan) a_nil))) a_nil)))))))
  (b_cons (s_set (i := 1) (by show 1 ∉ ([] : List Nat); decide) sc.nd rfl (by first | exact Or.inl rfl | exact Or.inr rfl) (v_addA (vv 1) (v_lst (a_cons (v_isXP hx he rfl T.b_isinstance (a_cons (vv 0) (a_cons (v_cls rfl T.m_Doubled) a_nil))) (a_cons (v_isXP hx he rfl T.b_isinstance (a_cons (vv 0) (a_cons (v_cls rfl T.m_BadCard) a_nil))) (a_cons (v_isXP hx he rfl T.b_isinstance (a_cons (vv 0) (a_cons (v_cls rfl T.m_Unknown) a_nil))) (a_cons (v_isXP hx he rfl T.b_isinstance (a_cons (vv 0) (a_cons (v_cls rfl T.m_NotEnd) a_nil))) a_nil)))))))
  (b_cons (s_set (i := 2) (by show 2 ∉ ([] : List Nat); decide) sc.nd rfl (by first | exact Or.inl rfl | exact Or.inr rfl) (v_lst (a_cons v_str (a_cons v_str (a_cons v_str (a_cons v_str (a_cons v_str (a_cons v_str (a_cons v_str (a_cons v_str a_nil))))))))))
  (b_cons (s_set (i := 2) (by show 2 ∉ ([] : List Nat); decide) sc.nd rfl (by first | exact Or.inl rfl | exact Or.inr rfl) (v_addA (vv 2) (v_lst (a_cons v_str (a_cons v_str (a_cons v_str (a_cons v_str (a_cons v_str (a_cons v_str (a_cons v_str (a_cons v_str a_nil)))))))))))
  (b_cons (s_set (i := 2) (by show 2 ∉ ([] : List Nat); decide) sc.nd rfl (by first | exact Or.inl rfl | exact Or.inr rfl) (v_addA (vv 2) (v_lst (a_cons v_str (a_cons v_str (a_cons v_str (a_cons v_str (a_cons v_str (a_cons v_str (a_cons v_str (a_cons v_str a_nil)))))))))))
  (b_cons (sSetLcH (i := 3) (own := [("k", 4)]) (by show 3 ∉ ([] : List Nat); decide) hx.hot sc.nd rfl rfl (sw_true rfl rfl rfl (by decide +kernel)) rfl (by show ∀ v ∈ ([4] : List Nat), v ∉ ([] : List Nat); decide) (by decide) (i_rng1H rfl T.b_range (a_cons v_int a_nil)) (blkOk_by (by show blkC ["e", "told", "names", "found", "k"] (defScope (top 72)) _ _ = true; decide +kernel)) (fun _ _ _ _ _ => ⟨_, (g_name (i := 4) (by show 4 ∉ ([] : List Nat); decide) sc.nd rfl (by first | exact Or.inl rfl | exact Or.inr rfl))⟩) (fun _ _ _ _ _ => ⟨_, (ts_one (t_val (v_ix (vv 1) (vv 4))))⟩) (fun _ _ _ _ _ => ⟨_, (v_ix (vv 2) (vv 4))⟩))
  (b_cons (s_if (t_w (w_and (t_eq (roomH_units hr) (v_len rfl T.b_len (a_cons (vv 3) a_nil)) v_int) (w_and1 (t_val (v_isXP hx he rfl T.b_isinstance (a_cons (vv 0) (a_cons (v_ty rfl T.b_ValueError bt_VE) a_nil))))))) (b_one (s_ret (v_ix (vv 3) v_int))) b_nil)
  (b_one (s_ret v_str))))))))))))), ?_⟩
    generalize hc : He.ga K x = c at k kv ⊢
    simp! [sIsX, clsOf, Option.some.injEq]
    repeat (first | refine ⟨_, _, rfl, k _ (by decide), ?_⟩ | refine ⟨szOk (by decide), ?_⟩)
    generalize hB : (ALLX.map fun y => x == y) = B
    refine r_lc (e1 := [some (.st (.kls a)), some (.lst ((B.map VL.D.bl).map .st)), some (.lst ((ALLX.map VL.D.str).map .st)), none, none])
      (fun m acc e => e = [some (.st (.kls a)), some (.lst ((B.map VL.D.bl).map .st)), some (.lst ((ALLX.map VL.D.str).map .st)), none, none] ∧ acc = ((ALLX.take m).filter fun y => x == y).map VL.D.str) 24 _ (fun Q q => by
        simp!
        refine ⟨⟨by decide, by decide⟩, ?_⟩
        rw [← hB] at q
        exact q) ⟨rfl, rfl⟩ (fun m acc e hm ⟨he, ha⟩ => ?_) fun acc e ⟨he, ha⟩ => ?_
    · subst he ha
      obtain ⟨y, hy⟩ := get_lt (l := ALLX) (m := m) hm
      have a1 : L2.atI (B.map VL.D.bl) (m : Int) = some (.bl (x == y)) := by rw [← hB, List.map_map]; exact atI_map hy
      have a2 : L2.atI (ALLX.map VL.D.str) (m : Int) = some (.str y) := atI_map hy
      simp! [a1, a2]
      rw [take_snoc hy, List.filter_append, List.map_append]
      cases q : (x == y) with
      | true =>
        simp! [List.length_map]
        refine ⟨szLt (by have := List.length_filter_le (fun y => x == y) (ALLX.take m); rw [List.length_take] at this; omega), ?_⟩
        simp [q]
      | false =>
        simp!
        simp [q]
    · subst he ha
      rw [show ALLX.take 24 = ALLX from rfl, allx_one x hxa]
      simp!
      exact ⟨_, _, rfl, kv, hq⟩
end
end K80
-- W_law_refusal_of
set_option maxHeartbeats 4000000
namespace K80
open PySem PySem.Spec L2 VL
theorem sc_law_refusal_of : FnScope ["e", "kind"] ["e"] (defScope (top 73)) := ⟨rfl, rfl, rfl, by decide +kernel, rfl, by decide +kernel, by decide +kernel⟩
def C_law_refusal_of (K : Fr) : CtrE := fun a c fs os Q => ∃ er : Er, os = [.st (.kls a)] ∧ c = He.ga K (erC er) ∧ fs = erF er ∧ Q (.st (erR er))
section
variable {P : Program} {w : World} {K : Fr} {mg : Str → Option Value} {base : Heap}
theorem ok_law_refusal_of (T : Tx P w K mg base) : OkE P w K mg base "_law_refusal_of" ["e"] 4 (C_law_refusal_of K) := by
  have o_law_class_of := ok_law_class_of (P := P) (w := w) (base := base) T
  have sc : FnScope ["e", "kind"] ["e"] (defScope (top 73)) := sc_law_refusal_of
  refine okE_of T.d_law_refusal_of sc (fun fd F => F.bindsN fun _ _ _ _ _ _ us hl => match us, hl with | [_], _ => rfl) (fun a c fs os Q h => ?_) (fun cdv A outer s H G s0 E p a c fs os Q1 hr hc hx => ?_)
  · obtain ⟨er, rfl, _⟩ := h; rfl
  · obtain ⟨er, rfl, rfl, rfl, hq⟩ := hc
    have hr0 : erC er ∈ RAISED := by cases er <;> simp [erC, RAISED]
    have hxf : XfC K (He.ga K (erC er)) := T.f_all _ hr0
    cases er with
    | bad x =>
      have hno : ∀ f ∈ (["station"] : List Str), PySem.W.findIn K (.ref (He.ga K "BadStation")) f = some none := T.x_BadStation.no
      change Hx _ G a (He.ga K "BadStation") [("station", VL.D.int x)] at hx
      change XfC K (He.ga K "BadStation") at hxf
      refine ⟨_, _, (b_cons (s_set (i := 1) (by show 1 ∉ ([] : List Nat); decide) sc.nd rfl (by first | exact Or.inl rfl | exact Or.inr rfl) (v_callEP hx o_law_class_of (hr.mono (by decide)) rfl (a_cons (vv 0) a_nil)))
  (b_cons (s_if (t_eq (roomH_units hr) (vv 1) v_str) (b_one (s_ret (v_tup (a_cons (vv 1) (a_cons (v_tup (a_cons (v_xfP hx hxf (hno "station" (by simp)) (vv 0)) a_nil)) a_nil))))) b_nil)
  (b_cons (s_if (t_eq (roomH_units hr) (vv 1) v_str) b_never b_nil)
  (b_cons (s_if (t_eq (roomH_units hr) (vv 1) v_str) b_never b_nil)
  (b_one (s_ret (v_tup (a_cons (vv 1) (a_cons (v_tup a_nil) a_nil))))))))), ?_⟩
      simp!
      refine ⟨"BadStation", rfl, by decide, rfl, ?_⟩
      simp_all!
      exact ⟨szOk (by decide), szOk (by decide), hq⟩
    | empty =>
      have hno : ∀ f ∈ (["what"] : List Str), PySem.W.findIn K (.ref (He.ga K "Empty")) f = some none := T.x_Empty.no
      change Hx _ G a (He.ga K "Empty") [("what", VL.D.str "stations")] at hx
      change XfC K (He.ga K "Empty") at hxf
      refine ⟨_, _, (b_cons (s_set (i := 1) (by show 1 ∉ ([] : List Nat); decide) sc.nd rfl (by first | exact Or.inl rfl | exact Or.inr rfl) (v_callEP hx o_law_class_of (hr.mono (by decide)) rfl (a_cons (vv 0) a_nil)))
  (b_cons (s_if (t_eq (roomH_units hr) (vv 1) v_str) b_never b_nil)
  (b_cons (s_if (t_eq (roomH_units hr) (vv 1) v_str) (b_one (s_ret (v_tup (a_cons (vv 1) (a_cons (v_tup (a_cons (v_xfP hx hxf (hno "what" (by simp)) (vv 0)) a_nil)) a_nil))))) b_nil)
  (b_cons (s_if (t_eq (roomH_units hr) (vv 1) v_str) b_never b_nil)
  (b_one (s_ret (v_tup (a_cons (vv 1) (a_cons (v_tup a_nil) a_nil))))))))), ?_⟩
      simp!
      refine ⟨"Empty", rfl, by decide, rfl, ?_⟩
      simp_all!
      exact ⟨szOk (by decide), szOk (by decide), hq⟩
    | stations =>
      have hno : ∀ f ∈ (["what", "limit"] : List Str), PySem.W.findIn K (.ref (He.ga K "TooMany")) f = some none := T.x_TooMany.no
      change Hx _ G a (He.ga K "TooMany") [("limit", VL.D.int 40), ("what", VL.D.str "stations")] at hx
      change XfC K (He.ga K "TooMany") at hxf
      refine ⟨_, _, (b_cons (s_set (i := 1) (by show 1 ∉ ([] : List Nat); decide) sc.nd rfl (by first | exact Or.inl rfl | exact Or.inr rfl) (v_callEP hx o_law_class_of (hr.mono (by decide)) rfl (a_cons (vv 0) a_nil)))
  (b_cons (s_if (t_eq (roomH_units hr) (vv 1) v_str) b_never b_nil)
  (b_cons (s_if (t_eq (roomH_units hr) (vv 1) v_str) b_never b_nil)
  (b_cons (s_if (t_eq (roomH_units hr) (vv 1) v_str) (b_one (s_ret (v_tup (a_cons (vv 1) (a_cons (v_tup (a_cons (v_xfP hx hxf (hno "what" (by simp)) (vv 0)) (a_cons (v_xfP hx hxf (hno "limit" (by simp)) (vv 0)) a_nil))) a_nil))))) b_nil)
  (b_one (s_ret (v_tup (a_cons (vv 1) (a_cons (v_tup a_nil) a_nil))))))))), ?_⟩
      simp!
      refine ⟨"TooMany", rfl, by decide, rfl, ?_⟩
      simp_all!
      exact ⟨szOk (by decide), szOk (by decide), hq⟩
    | pile =>
      have hno : ∀ f ∈ (["what", "limit"] : List Str), PySem.W.findIn K (.ref (He.ga K "TooMany")) f = some none := T.x_TooMany.no
      change Hx _ G a (He.ga K "TooMany") [("limit", VL.D.int 60), ("what", VL.D.str "pile")] at hx
      change XfC K (He.ga K "TooMany") at hxf
      refine ⟨_, _, (b_cons (s_set (i := 1) (by show 1 ∉ ([] : List Nat); decide) sc.nd rfl (by first | exact Or.inl rfl | exact Or.inr rfl) (v_callEP hx o_law_class_of (hr.mono (by decide)) rfl (a_cons (vv 0) a_nil)))
  (b_cons (s_if (t_eq (roomH_units hr) (vv 1) v_str) b_never b_nil)
  (b_cons (s_if (t_eq (roomH_units hr) (vv 1) v_str) b_never b_nil)
  (b_cons (s_if (t_eq (roomH_units hr) (vv 1) v_str) (b_one (s_ret (v_tup (a_cons (vv 1) (a_cons (v_tup (a_cons (v_xfP hx hxf (hno "what" (by simp)) (vv 0)) (a_cons (v_xfP hx hxf (hno "limit" (by simp)) (vv 0)) a_nil))) a_nil))))) b_nil)
  (b_one (s_ret (v_tup (a_cons (vv 1) (a_cons (v_tup a_nil) a_nil))))))))), ?_⟩
      simp!
      refine ⟨"TooMany", rfl, by decide, rfl, ?_⟩
      simp_all!
      exact ⟨szOk (by decide), szOk (by decide), hq⟩
    | slips =>
      have hno : ∀ f ∈ (["what", "limit"] : List Str), PySem.W.findIn K (.ref (He.ga K "TooMany")) f = some none := T.x_TooMany.no
      change Hx _ G a (He.ga K "TooMany") [("limit", VL.D.int 300), ("what", VL.D.str "slips")] at hx
      change XfC K (He.ga K "TooMany") at hxf
      refine ⟨_, _, (b_cons (s_set (i := 1) (by show 1 ∉ ([] : List Nat); decide) sc.nd rfl (by first | exact Or.inl rfl | exact Or.inr rfl) (v_callEP hx o_law_class_of (hr.mono (by decide)) rfl (a_cons (vv 0) a_nil)))
  (b_cons (s_if (t_eq (roomH_units hr) (vv 1) v_str) b_never b_nil)
  (b_cons (s_if (t_eq (roomH_units hr) (vv 1) v_str) b_never b_nil)
  (b_cons (s_if (t_eq (roomH_units hr) (vv 1) v_str) (b_one (s_ret (v_tup (a_cons (vv 1) (a_cons (v_tup (a_cons (v_xfP hx hxf (hno "what" (by simp)) (vv 0)) (a_cons (v_xfP hx hxf (hno "limit" (by simp)) (vv 0)) a_nil))) a_nil))))) b_nil)
  (b_one (s_ret (v_tup (a_cons (vv 1) (a_cons (v_tup a_nil) a_nil))))))))), ?_⟩
      simp!
      refine ⟨"TooMany", rfl, by decide, rfl, ?_⟩
      simp_all!
      exact ⟨szOk (by decide), szOk (by decide), hq⟩
    | couriers =>
      have hno : ∀ f ∈ (["what", "limit"] : List Str), PySem.W.findIn K (.ref (He.ga K "TooMany")) f = some none := T.x_TooMany.no
      change Hx _ G a (He.ga K "TooMany") [("limit", VL.D.int 40), ("what", VL.D.str "couriers")] at hx
      change XfC K (He.ga K "TooMany") at hxf
      refine ⟨_, _, (b_cons (s_set (i := 1) (by show 1 ∉ ([] : List Nat); decide) sc.nd rfl (by first | exact Or.inl rfl | exact Or.inr rfl) (v_callEP hx o_law_class_of (hr.mono (by decide)) rfl (a_cons (vv 0) a_nil)))
  (b_cons (s_if (t_eq (roomH_units hr) (vv 1) v_str) b_never b_nil)
  (b_cons (s_if (t_eq (roomH_units hr) (vv 1) v_str) b_never b_nil)
  (b_cons (s_if (t_eq (roomH_units hr) (vv 1) v_str) (b_one (s_ret (v_tup (a_cons (vv 1) (a_cons (v_tup (a_cons (v_xfP hx hxf (hno "what" (by simp)) (vv 0)) (a_cons (v_xfP hx hxf (hno "limit" (by simp)) (vv 0)) a_nil))) a_nil))))) b_nil)
  (b_one (s_ret (v_tup (a_cons (vv 1) (a_cons (v_tup a_nil) a_nil))))))))), ?_⟩
      simp!
      refine ⟨"TooMany", rfl, by decide, rfl, ?_⟩
      simp_all!
      exact ⟨szOk (by decide), szOk (by decide), hq⟩
end
end K80
-- W_law_ask
set_option maxHeartbeats 4000000
namespace K80
open PySem PySem.Spec L2 VL
theorem sc_law_ask : FnScope ["which", "piles", "starts", "e"] ["which", "piles", "starts"] (defScope (top 74)) := ⟨rfl, rfl, rfl, by decide +kernel, rfl, by decide +kernel, by decide +kernel⟩
def C_law_ask (K : Fr) : Ctr := fun os Q E => ∃ (w : Int) (pss : Piles) (starts : List Int) (d1 d2 : VL.D) (b2 : Bool), os = [.st (.int w), .st d1, .st d2] ∧ PilesD d1 pss ∧ d2.itm = some (b2, starts.map .int) ∧ (w = 0 ∨ w = 1 ∨ w = 2) ∧
  ∀ ans, AskA w pss starts ans → Q (.st ans) os
section
variable {P : Program} {w : World} {K : Fr} {mg : Str → Option Value} {base : Heap}
theorem ok_law_ask (T : Tx P w K mg base) : Ok P w K mg base "_law_ask" ["which", "piles", "starts"] 8 (C_law_ask K) := by
  have o_fewest_starts := ok_fewest_starts (P := P) (w := w) (base := base) T
  have o_best_starts := ok_best_starts (P := P) (w := w) (base := base) T
  have o_judge_starts := ok_judge_starts (P := P) (w := w) (base := base) T
  have o_law_refusal_of := ok_law_refusal_of (P := P) (w := w) (base := base) T
  have sc : FnScope ["which", "piles", "starts", "e"] ["which", "piles", "starts"] (defScope (top 74)) := sc_law_ask
  refine ok_of [] T.d_law_ask sc (fun fd F => F.bindsN fun _ _ _ _ _ _ us hl => match us, hl with | [_, _, _], _ => rfl) (fun os Q E h => ?_) (fun cdv A outer s H G s0 E os Q1 E1 hr hc wx => ⟨_, _, (b_one (s_try wx (i := 3) (by show 3 ∉ ([] : List Nat); decide) rfl rfl sc.nd rfl rfl ⟨rfl, by decide, Or.inl T.m_Refused⟩ (fun W2 pn xe G2 E2 wx => ⟨_, (b_cons (s_if (t_eq hr.units (vv 0) v_int) (b_one (s_ret (v_tup (a_cons v_int (a_cons (v_callO wx o_fewest_starts (hr.mono (by decide)) rfl (a_cons (vv 1) a_nil)) a_nil))))) b_nil)
  (b_cons (s_if (t_eq hr.units (vv 0) v_int) (b_one (s_ret (v_tup (a_cons v_int (a_cons (v_callO wx o_best_starts (hr.mono (by decide)) rfl (a_cons (vv 1) a_nil)) a_nil))))) b_nil)
  (b_one (s_ret (v_tup (a_cons v_int (a_cons (v_callO wx o_judge_starts (hr.mono (by decide)) rfl (a_cons (vv 1) (a_cons (vv 2) a_nil))) a_nil)))))))⟩) (fun a2 oe pn G2 C2 fs2 hx => ⟨_, (b_one (s_ret (v_tup (a_cons v_int (a_cons (v_callEP hx o_law_refusal_of (roomMark (hr.mono (by decide)) _) rfl (a_cons (vv 3) a_nil)) a_nil)))))⟩))), ?_⟩)
  · obtain ⟨w, pss, starts, d1, d2, b2, rfl, _⟩ := h; rfl
  · obtain ⟨w, pss, starts, d1, d2, b2, rfl, hp1, h2, hw, hq⟩ := hc
    dsimp!
    have hr0 : ∀ er : Er, erC er ∈ RAISED := fun er => by cases er <;> simp [erC, RAISED]
    rcases hw with rfl | rfl | rfl
    · simp_all!
      refine ⟨pss, d1, rfl, hp1, ?_⟩
      cases h : chkDeal pss [] with
      | some er =>
        rw [res_some]
        refine ⟨rfl, true, T.r_exm _ (hr0 er), fun _ a => ?_, fun h => nomatch h⟩
        refine ⟨er, rfl, rfl, rfl, szOk (by decide), hq _ ⟨fun _ => by rw [h]; rfl, fun h => absurd h (by decide), fun h => absurd h (by decide)⟩⟩
      | none =>
        rw [res_none]
        simp_all!
        exact ⟨szOk (by decide), hq _ ⟨fun _ => by rw [h]; exact ⟨_, rfl, rfl⟩, fun h => absurd h (by decide), fun h => absurd h (by decide)⟩⟩
    · simp_all!
      simp only [show decide ((1 : Int) = 0) = false from rfl, decide_true]
      refine ⟨pss, d1, rfl, hp1, ?_⟩
      cases h : chkDeal pss [] with
      | some er =>
        rw [res_some]
        refine ⟨rfl, true, T.r_exm _ (hr0 er), fun _ a => ?_, fun h => nomatch h⟩
        refine ⟨er, rfl, rfl, rfl, szOk (by decide), hq _ ⟨fun h => absurd h (by decide), fun _ => by rw [h]; rfl, fun h => absurd h (by decide)⟩⟩
      | none =>
        rw [res_none]
        simp_all!
        exact fun out o1 o2 => ⟨szOk (by decide), hq _ ⟨fun h => absurd h (by decide), fun _ => by rw [h]; exact ⟨_, rfl, out, o1, o2, rfl⟩, fun h => absurd h (by decide)⟩⟩
    · simp_all!
      simp only [show decide ((2 : Int) = 0) = false from rfl, show decide ((2 : Int) = 1) = false from rfl, decide_true]
      refine ⟨pss, starts, d1, d2, b2, rfl, hp1, h2, ?_⟩
      cases h : chkDeal pss starts with
      | some er =>
        rw [res_some]
        refine ⟨rfl, true, T.r_exm _ (hr0 er), fun _ a => ?_, fun h => nomatch h⟩
        refine ⟨er, rfl, rfl, rfl, szOk (by decide), hq _ ⟨fun h => absurd h (by decide), fun h => absurd h (by decide), fun _ => by rw [h]; rfl⟩⟩
      | none =>
        rw [res_none]
        simp_all!
        exact ⟨szOk (by decide), hq _ ⟨fun h => absurd h (by decide), fun h => absurd h (by decide), fun _ => by rw [h]; exact ⟨_, rfl, rfl⟩⟩⟩
end
end K80
-- W_law_rows_of_starts
set_option maxHeartbeats 4000000
namespace K80
open PySem PySem.Spec L2 VL
theorem sc_law_rows_of_starts : FnScope ["store", "rule", "n", "rows", "k", "at"] ["store", "rule", "n"] (defScope (top 80)) := ⟨rfl, rfl, rfl, by decide +kernel, rfl, by decide +kernel, by decide +kernel⟩
theorem lc_takes {K : Fr} {t M : Nat} {st : List OD} {n : Nat} {x1 x3 x5 : Option OD} {Q : Rv → En → Prop} (hst : StoreOk t st) (ht : t + M < 2 ^ 11000) (hM : M ≤ 1000) (hn1 : 1 ≤ n) (hn2 : n ≤ 1000) (x4 : Option OD)
    (hq : ∀ (row : List Int) (st' : List OD), row.length = M → (∀ x ∈ row, 0 ≤ x ∧ x < n) → StoreOk (t + M) st' → Q (.t (.lst ((row.map VL.D.int).map .st))) [some (.lst st'), x1, some (.st (.int n)), x3, none, x5]) :
    ∃ I : Nat → List D → En → Prop, I 0 [] (wipeE [some (.lst st), x1, some (.st (.int n)), x3, x4, x5] [4]) ∧
      (∀ m acc e, m < M → I m acc e → gSlot 4 ((fun i : Nat => VL.D.int i) m) e fun e2 => sYes e2 fun b e3 => match b with
        | true => sCall (C_law_take K) (fun _ _ _ => False) (sCons (sVar 0) (sCons (sVar 2) sNil)) e3 fun r e4 => r.asT fun o => acc.length < PySem.sizeLine ∧ I (m + 1) (acc ++ [frz o]) (wipeE e4 [4])
        | false => I (m + 1) acc (wipeE e3 [4])) ∧
      ∀ acc e, I M acc e → Q (.t (.lst (acc.map .st))) e := by
  refine ⟨fun m acc e => ∃ (row : List Int) (st' : List OD), e = [some (.lst st'), x1, some (.st (.int n)), x3, none, x5] ∧ acc = row.map .int ∧ row.length = m ∧ (∀ x ∈ row, 0 ≤ x ∧ x < n) ∧ StoreOk (t + m) st', ⟨[], st, rfl, rfl, rfl, (fun x h => nomatch h), hst⟩, fun m acc e hm ⟨row, st', he, ha, hl, hx, hs⟩ => ?_, fun acc e ⟨row, st', he, ha, hl, hx, hs⟩ => ?_⟩
  · subst he ha
    simp!
    refine ⟨t + m, st', n, rfl, hs, by omega, natAbs_mono (a := 20) (natAbs_lt (by omega) (by omega)) (by decide), fun v st2 v0 v1 hs2 => ?_⟩
    simp! [List.length_map]
    refine ⟨szLt (by omega), row ++ [v], st2, rfl, by rw [List.map_append]; rfl, by simp [hl], fun x hx' => ?_, hs2⟩
    rcases List.mem_append.mp hx' with q | q
    · exact hx x q
    · rw [List.mem_singleton.mp q]; omega
  · subst he ha
    exact hq row st' hl hx hs
theorem lc_takesU {K : Fr} {u : TVI} {t c : Nat} {n : Nat} {x1 x3 x4 x5 : Option OD} {env : En} {Q : Rv → En → Prop} (ht : t + c + 1000 < 2 ^ 11000) (hn1 : 1 ≤ n) (hn2 : n ≤ 1000)
    (hu : ∀ Q' : Nat → (Nat → D) → En → Prop, (∀ (M : Nat) (st' : List OD), M ≤ 1000 → StoreOk (t + c) st' → Q' M (fun i => .int i) [some (.lst st'), x1, some (.st (.int n)), x3, x4, x5]) → u env Q')
    (hq : ∀ (row : List Int) (st' : List OD), row.length ≤ 1000 → (∀ x ∈ row, 0 ≤ x ∧ x < n) → StoreOk (t + c + row.length) st' → Q (.t (.lst ((row.map VL.D.int).map .st))) [some (.lst st'), x1, some (.st (.int n)), x3, none, x5]) :
    sLc u (gSlot 4) sYes (sCall (C_law_take K) (fun _ _ _ => False) (sCons (sVar 0) (sCons (sVar 2) sNil))) [4] env Q := by
  refine hu _ fun M st' hM hs => ?_
  exact lc_takes (K := K) hs (by omega) hM hn1 hn2 x4 fun row st2 l r s => hq row st2 (by omega) r (by rw [l]; exact s)
theorem frzL_app : ∀ (a b : List OD), frzL (a ++ b) = frzL a ++ frzL b
  | [], b => rfl
  | x :: a, b => by show frz x :: frzL (a ++ b) = frz x :: (frzL a ++ frzL b); rw [frzL_app a b]
def C_law_rows_of_starts (K : Fr) : Ctr := fun os Q E => ∃ (t : Nat) (st : List OD) (n : Nat) (rl : List Int) (m : Int), os = [.lst st, .st (lstI rl), .st (.int m)] ∧ m = n ∧ StoreOk t st ∧ t < 2 ^ 10000 ∧ 1 ≤ n ∧ n ≤ 1000 ∧ rl.length ≤ 500 ∧ (∀ x ∈ rl, 0 ≤ x ∧ x < n) ∧
  ∀ (o : List OD) (rows : List (List Int)) (st' : List OD), frzL o = rows.map lstI → (∀ r ∈ rows, r.length ≤ 1000 ∧ ∀ x ∈ r, 0 ≤ x ∧ x < n) → StoreOk (t + 5000) st' → Q (.lst o) [.lst st', .st (lstI rl), .st (.int m)]
section
variable {P : Program} {w : World} {K : Fr} {mg : Str → Option Value} {base : Heap}
theorem ok_law_rows_of_starts (T : Tx P w K mg base) : Ok P w K mg base "_law_rows_of_starts" ["store", "rule", "n"] 5 (C_law_rows_of_starts K) := by
  have o_law_take := ok_law_take (P := P) (w := w) (base := base) T
  have sc : FnScope ["store", "rule", "n", "rows", "k", "at"] ["store", "rule", "n"] (defScope (top 80)) := sc_law_rows_of_starts
  refine ok_of [0] T.d_law_rows_of_starts sc (fun fd F => F.bindsN fun _ _ _ _ _ _ us hl => match us, hl with | [_, _, _], _ => rfl) (fun os Q E h => ?_) (fun cdv A outer s H G s0 E os Q1 E1 hr hc wx => ⟨_, _, (b_cons (s_set (i := 3) (by show 3 ∉ ([0] : List Nat); decide) sc.nd rfl (by first | exact Or.inl rfl | exact Or.inr rfl) (v_lst (a_cons (v_list rfl T.b_list bt_list (a_cons (vv 1) a_nil)) (a_cons (v_lst a_nil) (a_cons (vLc (own := [("k", 4)]) wx.calm sc.nd rfl (by show ∀ v ∈ ([4] : List Nat), v ∉ ([0] : List Nat); decide) (by decide) (i_rng1 rfl T.b_range (a_cons (v_callO wx o_law_take (hr.mono (by decide)) rfl (a_cons (vv 0) (a_cons v_int a_nil))) a_nil)) (blkOk_by (by show blkC ["store", "rule", "n", "rows", "k", "at"] (defScope (top 80)) _ _ = true; decide +kernel)) (fun _ _ _ _ _ => ⟨_, (g_name (i := 4) (by show 4 ∉ ([0] : List Nat); decide) sc.nd rfl (by first | exact Or.inl rfl | exact Or.inr rfl))⟩) (fun _ _ _ _ _ => ⟨_, ts_nil⟩) (fun _ _ _ _ _ => ⟨_, (v_callO (Wx.blk wx.calm) o_law_take (hr.mono (by decide)) rfl (a_cons (vv 0) (a_cons (vv 2) a_nil)))⟩)) a_nil)))))
  (b_cons (s_app (vv 3) (vLc (own := [("k", 4)]) wx.calm sc.nd rfl (by show ∀ v ∈ ([4] : List Nat), v ∉ ([0] : List Nat); decide) (by decide) (i_rng1 rfl T.b_range (a_cons v_int a_nil)) (blkOk_by (by show blkC ["store", "rule", "n", "rows", "k", "at"] (defScope (top 80)) _ _ = true; decide +kernel)) (fun _ _ _ _ _ => ⟨_, (g_name (i := 4) (by show 4 ∉ ([0] : List Nat); decide) sc.nd rfl (by first | exact Or.inl rfl | exact Or.inr rfl))⟩) (fun _ _ _ _ _ => ⟨_, ts_nil⟩) (fun _ _ _ _ _ => ⟨_, (v_callO (Wx.blk wx.calm) o_law_take (hr.mono (by decide)) rfl (a_cons (vv 0) (a_cons (vv 2) a_nil)))⟩)))
  (b_cons (s_if (t_gt (v_len rfl T.b_len (a_cons (vv 1) a_nil)) v_int) (b_cons (s_set (i := 5) (by show 5 ∉ ([0] : List Nat); decide) sc.nd rfl (by first | exact Or.inl rfl | exact Or.inr rfl) (v_callO wx o_law_take (hr.mono (by decide)) rfl (a_cons (vv 0) (a_cons (v_len rfl T.b_len (a_cons (vv 1) a_nil)) a_nil))))
  (b_cons (s_app (vv 3) (v_addA (v_sl (vv 1) o_none (o_some (vv 5))) (v_sl (vv 1) (o_some (v_addA (vv 5) v_int)) o_none)))
  (b_one (s_app (vv 3) (v_addA (v_addA (v_sl (vv 1) o_none (o_some (vv 5))) (v_lst (a_cons (v_callO wx o_law_take (hr.mono (by decide)) rfl (a_cons (vv 0) (a_cons (vv 2) a_nil))) a_nil))) (v_sl (vv 1) (o_some (v_addA (vv 5) v_int)) o_none)))))) b_nil)
  (b_cons (s_if (t_gt (v_len rfl T.b_len (a_cons (vv 1) a_nil)) v_int) (b_cons (s_app (vv 3) (v_sl (vv 1) o_none (o_some v_int)))
  (b_one (s_app (vv 3) (v_sl (vv 1) o_none (o_some v_int))))) b_nil)
  (b_one (s_ret (vv 3))))))), ?_⟩)
  · obtain ⟨t, st, n, rl, m, rfl, _⟩ := h; rfl
  · obtain ⟨t, st, n, rl, m, rfl, rfl, hst, ht, hn1, hn2, hl, hx, hq⟩ := hc
    dsimp! [itm_lstI]
    rw [seq_eq]
    dsimp! [itm_lstI]
    refine ⟨szOk (by decide), ?_⟩
    refine lc_takesU (c := 1) (t := t) (x1 := some (.st (lstI rl))) (x3 := none) (x4 := none) (x5 := none) (by omega) hn1 hn2 (fun Q' q => ?_) fun row1 st1 l1 r1 s1 => ?_
    · simp!
      refine ⟨t, st, 5, rfl, hst, by omega, by decide, fun v st0 v0 v1 hs0 => ?_⟩
      simp_all!
      exact ⟨⟨by omega, by omega⟩, q _ _ (by omega) hs0⟩
    · dsimp!
      refine ⟨szOk (by decide), ?_⟩
      rw [seq_eq]
      dsimp!
      refine lc_takesU (c := 0) (t := t + 1 + row1.length) (x1 := some (.st (lstI rl))) (x3 := some (.lst [.lst ((rl.map VL.D.int).map .st), .lst [], .lst ((row1.map VL.D.int).map .st)])) (x4 := none) (x5 := none) (by omega) hn1 hn2 (fun Q' q => ?_) fun row2 st2 l2 r2 s2 => ?_
      · simp!
        exact ⟨⟨by decide, by decide⟩, q _ _ (by decide) s1⟩
      · dsimp!
        refine ⟨szLt (by decide), ?_⟩
        have cutA : ∀ j : Nat, j ≤ rl.length → cutD (rl.map VL.D.int) none (some (j : Int)) = (rl.take j).map .int := fun j hj => by rw [cut_to _ (by rw [List.length_map]; exact hj), List.map_take]
        have cutB : ∀ j : Nat, j ≤ rl.length → cutD (rl.map VL.D.int) (some (j : Int)) none = (rl.drop j).map .int := fun j hj => by rw [cut_from _ (by rw [List.length_map]; exact hj), List.map_drop]
        refine r_cut (fun e => ∃ (o : List OD) (rows : List (List Int)) (st' : List OD) (x5 : Option OD), e = [some (.lst st'), some (.st (lstI rl)), some (.st (.int n)), some (.lst o), none, x5] ∧ frzL o = rows.map lstI ∧ (∀ r ∈ rows, r.length ≤ 1000 ∧ ∀ x ∈ r, 0 ≤ x ∧ x < n) ∧ rows.length ≤ 6 ∧ StoreOk (t + 4000) st') (fun R hR => ?_) fun e he => ?_
        · dsimp! [gLenE (itm_lstI rl), List.length_map]
          have good4 : ∀ r ∈ ([rl, [], row1, row2] : List (List Int)), r.length ≤ 1000 ∧ ∀ x ∈ r, 0 ≤ x ∧ x < n := fun r hr => by
            simp only [List.mem_cons, List.not_mem_nil, or_false] at hr
            rcases hr with rfl | rfl | rfl | rfl
            · exact ⟨by omega, hx⟩
            · exact ⟨by simp, fun x h => nomatch h⟩
            · exact ⟨l1, r1⟩
            · exact ⟨l2, r2⟩
          have frz4 : frzL [.lst ((rl.map VL.D.int).map .st), .lst [], .lst ((row1.map VL.D.int).map .st), .st (.lst (row2.map VL.D.int))] = ([rl, [], row1, row2] : List (List Int)).map lstI := by
            simp only [frzL, frz, frzL_st, List.map_cons, List.map_nil, lstI]
          by_cases q : 0 < rl.length
          · rw [decide_eq_true (by omega)]
            dsimp!
            rw [seq_eq]
            dsimp! [gLenE (itm_lstI rl), List.length_map]
            refine ⟨_, st2, rl.length, rfl, s2, by omega, natAbs_mono (a := 20) (natAbs_lt (by omega) (by omega)) (by decide), fun v st3 v0 v1 s3 => ?_⟩
            obtain ⟨j, rfl⟩ := Int.eq_ofNat_of_zero_le v0
            have hj : j < rl.length := by omega
            have c1 := cutA j (by omega)
            have c2 : cutD (rl.map VL.D.int) (some ((j : Int) + 1)) none = (rl.drop (j + 1)).map .int := by rw [show (j : Int) + 1 = ((j + 1 : Nat) : Int) by omega]; exact cutB (j + 1) (by omega)
            simp! [itm_lstI, c1, c2, List.length_map, List.length_append, List.length_take, List.length_drop]
            refine ⟨szOk (by omega), szLt (by decide), _, st3, n, rfl, s3, by omega, natAbs_mono (a := 20) (natAbs_lt (by omega) (by omega)) (by decide), fun v2 st4 v20 v21 s4 => ?_⟩
            simp! [itm_lstI, c1, c2, List.length_map, List.length_append, List.length_take, List.length_drop]
            refine ⟨szOk (by decide), szOk (by omega), szOk (by omega), szLt (by decide), ?_⟩
            refine hR _ ⟨_, [rl, [], row1, row2, rl.take j ++ rl.drop (j + 1), rl.take j ++ [v2] ++ rl.drop (j + 1)], st4, _, rfl, ?_, ?_, by simp, s4.mono (by omega)⟩
            · simp only [frzL, frz, frzL_st, List.map_cons, List.map_nil, lstI, List.map_append]
            · intro r hr
              simp only [List.mem_cons, List.not_mem_nil, or_false] at hr
              have hin : ∀ x, x ∈ rl.take j ∨ x ∈ rl.drop (j + 1) → 0 ≤ x ∧ x < n := fun x h => by
                rcases h with h | h
                · exact hx x (List.mem_of_mem_take h)
                · exact hx x (List.mem_of_mem_drop h)
              rcases hr with rfl | rfl | rfl | rfl | rfl | rfl
              · exact ⟨by omega, hx⟩
              · exact ⟨by simp, fun x h => nomatch h⟩
              · exact ⟨l1, r1⟩
              · exact ⟨l2, r2⟩
              · exact ⟨by simp; omega, fun x h => hin x (List.mem_append.mp h)⟩
              · refine ⟨by simp; omega, fun x h => ?_⟩
                rcases List.mem_append.mp h with h | h
                · rcases List.mem_append.mp h with h | h
                  · exact hin x (.inl h)
                  · rw [List.mem_singleton.mp h]; omega
                · exact hin x (.inr h)
          · rw [decide_eq_false (by omega)]
            simp!
            exact hR _ ⟨_, [rl, [], row1, row2], st2, _, rfl, frz4, good4, by simp, s2.mono (by omega)⟩
        · obtain ⟨o, rows, st', x5, rfl, h1, h2, h3, h4⟩ := he
          simp! [gLenE (itm_lstI rl), List.length_map]
          by_cases q : 40 < rl.length
          · rw [decide_eq_true (by omega)]
            have c1 := cutA 40 (by omega)
            have c2 := cutA 41 (by omega)
            have ol : o.length = rows.length := by have := congrArg List.length h1; rw [frzL_length, List.length_map] at this; exact this
            simp! [itm_lstI, show cutD (rl.map VL.D.int) none (some 40) = _ from c1, show cutD (rl.map VL.D.int) none (some 41) = _ from c2, List.length_append]
            refine ⟨szLt (by omega), szLt (by first | omega | (simp; omega)), ?_⟩
            refine hq _ (rows ++ [rl.take 40] ++ [rl.take 41]) st' ?_ ?_ (h4.mono (by omega))
            · rw [frzL_app, frzL_app, h1]
              simp only [frzL, frz, List.map_cons, List.map_nil, lstI, List.map_append]
            · intro r hr
              rcases List.mem_append.mp hr with h | h
              · rcases List.mem_append.mp h with h | h
                · exact h2 r h
                · rw [List.mem_singleton.mp h]
                  exact ⟨by rw [List.length_take]; omega, fun x h => hx x (List.mem_of_mem_take h)⟩
              · rw [List.mem_singleton.mp h]
                exact ⟨by rw [List.length_take]; omega, fun x h => hx x (List.mem_of_mem_take h)⟩
          · rw [decide_eq_false (by omega)]
            simp!
            exact hq o rows st' h1 h2 (h4.mono (by omega))
end
end K80
-- W_law_judged
set_option maxHeartbeats 4000000
namespace K80
open PySem PySem.Spec L2 VL
theorem sc_law_judged : FnScope ["handed", "piles", "starts", "told"] ["handed", "piles", "starts"] (defScope (top 79)) := ⟨rfl, rfl, rfl, by decide +kernel, rfl, by decide +kernel, by decide +kernel⟩
def C_law_judged (K : Fr) : Ctr := fun os Q E => ∃ (pss : Piles) (starts : List Int) (d1 d2 d3 : VL.D) (b3 : Bool), os = [.st d1, .st d2, .st d3] ∧ PilesD d1 pss ∧ PilesD d2 pss ∧ d3.itm = some (b3, starts.map .int) ∧ chkPiles pss = none ∧ starts.length ≤ 1000 ∧ (∀ x ∈ starts, InN pss x) ∧ Q (.st (.bl true)) os
section
variable {P : Program} {w : World} {K : Fr} {mg : Str → Option Value} {base : Heap}
theorem ok_law_judged (T : Tx P w K mg base) : Ok P w K mg base "_law_judged" ["handed", "piles", "starts"] 9 (C_law_judged K) := by
  have o_law_ask := ok_law_ask (P := P) (w := w) (base := base) T
  have o_law_told := ok_law_told (P := P) (w := w) (base := base) T
  have o_law_takes_all := ok_law_takes_all (P := P) (w := w) (base := base) T
  have sc : FnScope ["handed", "piles", "starts", "told"] ["handed", "piles", "starts"] (defScope (top 79)) := sc_law_judged
  refine ok_of [] T.d_law_judged sc (fun fd F => F.bindsN fun _ _ _ _ _ _ us hl => match us, hl with | [_, _, _], _ => rfl) (fun os Q E h => ?_) (fun cdv A outer s H G s0 E os Q1 E1 hr hc wx => ⟨_, _, (b_cons (s_set (i := 3) (by show 3 ∉ ([] : List Nat); decide) sc.nd rfl (by first | exact Or.inl rfl | exact Or.inr rfl) (v_callO wx o_law_ask (hr.mono (by decide)) rfl (a_cons v_int (a_cons (vv 0) (a_cons (v_fz (v_list rfl T.b_list bt_list (a_cons (vv 2) a_nil))) a_nil)))))
  (b_cons (s_if (t_gt (v_len rfl T.b_len (a_cons (vv 2) a_nil)) v_int) (b_one (s_ret (v_callO wx o_law_told (hr.mono (by decide)) rfl (a_cons (vv 3) (a_cons v_int (a_cons (v_tup (a_cons v_str (a_cons (v_tup (a_cons v_str (a_cons v_int a_nil))) a_nil))) a_nil)))))) b_nil)
  (b_one (s_ret (v_callO wx o_law_told (hr.mono (by decide)) rfl (a_cons (vv 3) (a_cons v_int (a_cons (v_callO wx o_law_takes_all (hr.mono (by decide)) rfl (a_cons (vv 1) (a_cons (vv 2) a_nil))) a_nil)))))))), ?_⟩)
  · obtain ⟨pss, starts, d1, d2, d3, b3, rfl, _⟩ := h; rfl
  · obtain ⟨pss, starts, d1, d2, d3, b3, rfl, hp1, hp2, h3, hck, hl, hx, hq⟩ := hc
    obtain ⟨p1, p2, p3, p4⟩ := chkPiles_names hck
    dsimp! [h3]
    rw [seq_eq]
    dsimp! [h3]
    refine ⟨2, pss, starts, d1, _, false, rfl, hp1, rfl, .inr (.inr rfl), fun ans ha => ?_⟩
    have ha2 := ha.2.2 rfl
    unfold chkDeal at ha2
    rw [hck] at ha2
    have hcr : chkRow pss.length 40 .couriers starts = if 40 < starts.length then some .couriers else none := by
      unfold chkRow
      split
      · rfl
      · rw [List.find?_eq_none.mpr fun x hx' => by rw [okI_iff.mpr (hx x hx')]; simp]; rfl
    simp only [] at ha2
    rw [hcr] at ha2
    simp! [gLenE h3, List.length_map]
    by_cases q : 40 < starts.length
    · rw [if_pos q] at ha2
      rw [decide_eq_true (by omega)]
      have ha3 : ans = refD .couriers := ha2
      subst ha3
      refine ⟨szOk (by decide), szOk (by decide), 0, _, rfl, SameOk.er .couriers, ?_⟩
      simp_all!
      exact hq
    · rw [if_neg q] at ha2
      rw [decide_eq_false (by omega)]
      obtain ⟨d, rfl, rfl⟩ := ha2
      refine ⟨pss, starts, d2, d3, b3, rfl, hp2, h3, p4, by omega, by omega, hl, hx, ?_⟩
      simp_all!
      refine ⟨1, _, rfl, SameOk.leaf (.bl _), ?_⟩
      simp_all!
      exact hq
end
end K80
-- W_law_odd
set_option maxHeartbeats 4000000
namespace K80
open PySem PySem.Spec L2 VL
theorem sc_law_odd : FnScope ["store", "n"] ["store", "n"] (defScope (top 81)) := ⟨rfl, rfl, rfl, by decide +kernel, rfl, by decide +kernel, by decide +kernel⟩
def C_law_odd (K : Fr) : Ctr := fun os Q E => ∃ (t : Nat) (st : List OD) (n : Nat), os = [.lst st, .st (.int n)] ∧ StoreOk t st ∧ t < 2 ^ 11000 ∧ 1 ≤ n ∧ n ≤ 1000 ∧ ∀ (v : Int) (st' : List OD), ¬ (0 ≤ v ∧ v < n) → StoreOk (t + 1) st' → Q (.st (.int v)) [.lst st', .st (.int n)]
section
variable {P : Program} {w : World} {K : Fr} {mg : Str → Option Value} {base : Heap}
theorem ok_law_odd (T : Tx P w K mg base) : Ok P w K mg base "_law_odd" ["store", "n"] 5 (C_law_odd K) := by
  have o_law_take := ok_law_take (P := P) (w := w) (base := base) T
  have sc : FnScope ["store", "n"] ["store", "n"] (defScope (top 81)) := sc_law_odd
  refine ok_of [0] T.d_law_odd sc (fun fd F => F.bindsN fun _ _ _ _ _ _ us hl => match us, hl with | [_, _], _ => rfl) (fun os Q E h => ?_) (fun cdv A outer s H G s0 E os Q1 E1 hr hc wx => ⟨_, _, (b_one (s_ret (v_ix (v_lst (a_cons (v_neg v_int) (a_cons (v_neg (vv 1)) (a_cons (vv 1) (a_cons (v_addA (vv 1) (v_pow v_int v_int)) (a_cons (v_sub (v_neg v_int) (v_pow v_int v_int)) a_nil)))))) (v_callO wx o_law_take (hr.mono (by decide)) rfl (a_cons (vv 0) (a_cons v_int a_nil)))))), ?_⟩)
  · obtain ⟨t, st, n, rfl, _⟩ := h; rfl
  · obtain ⟨t, st, n, rfl, hst, ht, hn1, hn2, hq⟩ := hc
    simp!
    refine ⟨⟨by decide, by decide, by decide⟩, ⟨by decide, by decide, by decide⟩, szOk (by decide), t, st, 5, rfl, hst, ht, by decide, fun v st' h0 h1 hs => ?_⟩
    simp_all!
    have e28 : (10 : Int) ^ Int.toNat 28 = 10000000000000000000000000000 := by decide
    rw [e28]
    have hv : v < 5 := by omega
    have : v = 0 ∨ v = 1 ∨ v = 2 ∨ v = 3 ∨ v = 4 := by omega
    rcases this with rfl | rfl | rfl | rfl | rfl
    all_goals
      simp!
      exact hq _ _ (by omega) hs
end
end K80
-- W_law_odd_piles
set_option maxHeartbeats 4000000
namespace K80
open PySem PySem.Spec L2 VL
theorem sc_law_odd_piles : FnScope ["store", "piles", "kind", "n", "v", "at", "name", "made", "pile", "k", "w"] ["store", "piles"] (defScope (top 82)) := ⟨rfl, rfl, rfl, by decide +kernel, rfl, by decide +kernel, by decide +kernel⟩
def C_law_odd_piles (K : Fr) : Ctr := fun os Q E => ∃ (t : Nat) (st : List OD) (pss : Piles), os = [.lst st, .st (pilesL pss)] ∧ StoreOk t st ∧ t < 2 ^ 10500 ∧ chkPiles pss = none ∧
  ∀ (d : VL.D) (pss' : Piles) (er : Er) (st' : List OD), PilesD d pss' → chkPiles pss' = some er → StoreOk (t + 100) st' → Q (.st (.tup [d, erR er])) [.lst st', .st (pilesL pss)]
section
variable {P : Program} {w : World} {K : Fr} {mg : Str → Option Value} {base : Heap}
theorem ok_law_odd_piles (T : Tx P w K mg base) : Ok P w K mg base "_law_odd_piles" ["store", "piles"] 6 (C_law_odd_piles K) := by
  have o_law_take := ok_law_take (P := P) (w := w) (base := base) T
  have o_law_odd := ok_law_odd (P := P) (w := w) (base := base) T
  have sc : FnScope ["store", "piles", "kind", "n", "v", "at", "name", "made", "pile", "k", "w"] ["store", "piles"] (defScope (top 82)) := sc_law_odd_piles
  refine ok_of [0] T.d_law_odd_piles sc (fun fd F => F.bindsN fun _ _ _ _ _ _ us hl => match us, hl with | [_, _], _ => rfl) (fun os Q E h => ?_) (fun cdv A outer s H G s0 E os Q1 E1 hr hc wx => ⟨_, _, (b_cons (s_set (i := 2) (by show 2 ∉ ([0] : List Nat); decide) sc.nd rfl (by first | exact Or.inl rfl | exact Or.inr rfl) (v_callO wx o_law_take (hr.mono (by decide)) rfl (a_cons (vv 0) (a_cons v_int a_nil))))
  (b_cons (s_set (i := 3) (by show 3 ∉ ([0] : List Nat); decide) sc.nd rfl (by first | exact Or.inl rfl | exact Or.inr rfl) (v_len rfl T.b_len (a_cons (vv 1) a_nil)))
  (b_cons (s_set (i := 4) (by show 4 ∉ ([0] : List Nat); decide) sc.nd rfl (by first | exact Or.inl rfl | exact Or.inr rfl) (v_callO wx o_law_take (hr.mono (by decide)) rfl (a_cons (vv 0) (a_cons (vv 3) a_nil))))
  (b_cons (s_set (i := 5) (by show 5 ∉ ([0] : List Nat); decide) sc.nd rfl (by first | exact Or.inl rfl | exact Or.inr rfl) (v_callO wx o_law_take (hr.mono (by decide)) rfl (a_cons (vv 0) (a_cons (v_addA (v_len rfl T.b_len (a_cons (v_ix (vv 1) (vv 4)) a_nil)) v_int) a_nil))))
  (b_cons (s_set (i := 6) (by show 6 ∉ ([0] : List Nat); decide) sc.nd rfl (by first | exact Or.inl rfl | exact Or.inr rfl) (v_callO wx o_law_odd (hr.mono (by decide)) rfl (a_cons (vv 0) (a_cons (vv 3) a_nil))))
  (b_cons (sSetLc (i := 7) (own := [("pile", 8)]) (by show 7 ∉ ([0] : List Nat); decide) wx.calm sc.nd rfl rfl (sw_true rfl rfl rfl (by decide +kernel)) rfl (by show ∀ v ∈ ([8] : List Nat), v ∉ ([0] : List Nat); decide) (by decide) (i_seq (vv 1)) (blkOk_by (by show blkC ["store", "piles", "kind", "n", "v", "at", "name", "made", "pile", "k", "w"] (defScope (top 82)) _ _ = true; decide +kernel)) (fun _ _ _ _ _ => ⟨_, (g_name (i := 8) (by show 8 ∉ ([0] : List Nat); decide) sc.nd rfl (by first | exact Or.inl rfl | exact Or.inr rfl))⟩) (fun _ _ _ _ _ => ⟨_, ts_nil⟩) (fun _ _ _ _ _ => ⟨_, (v_list rfl T.b_list bt_list (a_cons (vv 8) a_nil))⟩))
  (b_cons (s_if (t_eq hr.units (vv 2) v_int) (b_one (s_ret (v_tup (a_cons (v_lst a_nil) (a_cons (v_tup (a_cons v_str (a_cons (v_tup (a_cons v_str a_nil)) a_nil))) a_nil))))) b_nil)
  (b_cons (s_if (t_eq hr.units (vv 2) v_int) (b_one (s_ret (v_tup (a_cons (vLc (own := [("k", 9)]) wx.calm sc.nd rfl (by show ∀ v ∈ ([9] : List Nat), v ∉ ([0] : List Nat); decide) (by decide) (i_rng1 rfl T.b_range (a_cons v_int a_nil)) (blkOk_by (by show blkC ["store", "piles", "kind", "n", "v", "at", "name", "made", "pile", "k", "w"] (defScope (top 82)) _ _ = true; decide +kernel)) (fun _ _ _ _ _ => ⟨_, (g_name (i := 9) (by show 9 ∉ ([0] : List Nat); decide) sc.nd rfl (by first | exact Or.inl rfl | exact Or.inr rfl))⟩) (fun _ _ _ _ _ => ⟨_, ts_nil⟩) (fun _ _ _ _ _ => ⟨_, (v_lst a_nil)⟩)) (a_cons (v_tup (a_cons v_str (a_cons (v_tup (a_cons v_str (a_cons v_int a_nil))) a_nil))) a_nil))))) b_nil)
  (b_cons (s_if (t_w (w_and (t_eq hr.units (vv 2) v_int) (w_and1 (t_gt (vv 3) v_int)))) (b_cons (s_set (i := 7) (by show 7 ∉ ([0] : List Nat); decide) sc.nd rfl (by first | exact Or.inl rfl | exact Or.inr rfl) (v_addA (v_addA (vLc (own := [("w", 10)]) wx.calm sc.nd rfl (by show ∀ v ∈ ([10] : List Nat), v ∉ ([0] : List Nat); decide) (by decide) (i_rng1 rfl T.b_range (a_cons v_int a_nil)) (blkOk_by (by show blkC ["store", "piles", "kind", "n", "v", "at", "name", "made", "pile", "k", "w"] (defScope (top 82)) _ _ = true; decide +kernel)) (fun _ _ _ _ _ => ⟨_, (g_name (i := 10) (by show 10 ∉ ([0] : List Nat); decide) sc.nd rfl (by first | exact Or.inl rfl | exact Or.inr rfl))⟩) (fun _ _ _ _ _ => ⟨_, ts_nil⟩) (fun _ _ _ _ _ => ⟨_, (vLc (own := [("k", 9)]) wx.calm sc.nd rfl (by show ∀ v ∈ ([9] : List Nat), v ∉ ([0] : List Nat); decide) (by decide) (i_rng1 rfl T.b_range (a_cons v_int a_nil)) (blkOk_by (by with_unfolding_all rfl)) (fun _ _ _ _ _ => ⟨_, (g_name (i := 9) (by show 9 ∉ ([0] : List Nat); decide) sc.nd rfl (by first | exact Or.inl rfl | exact Or.inr rfl))⟩) (fun _ _ _ _ _ => ⟨_, ts_nil⟩) (fun _ _ _ _ _ => ⟨_, (vv 10)⟩))⟩)) (v_fz (v_lst (a_cons (v_lst (a_cons (vv 4) a_nil)) a_nil)))) (vLc (own := [("w", 10)]) wx.calm sc.nd rfl (by show ∀ v ∈ ([10] : List Nat), v ∉ ([0] : List Nat); decide) (by decide) (i_rng1 rfl T.b_range (a_cons (v_sub (vv 3) v_int) a_nil)) (blkOk_by (by show blkC ["store", "piles", "kind", "n", "v", "at", "name", "made", "pile", "k", "w"] (defScope (top 82)) _ _ = true; decide +kernel)) (fun _ _ _ _ _ => ⟨_, (g_name (i := 10) (by show 10 ∉ ([0] : List Nat); decide) sc.nd rfl (by first | exact Or.inl rfl | exact Or.inr rfl))⟩) (fun _ _ _ _ _ => ⟨_, ts_nil⟩) (fun _ _ _ _ _ => ⟨_, (v_lst a_nil)⟩))))
  (b_one (s_ret (v_tup (a_cons (v_frz 7 (vv 7)) (a_cons (v_tup (a_cons v_str (a_cons (v_tup (a_cons v_str (a_cons v_int a_nil))) a_nil))) a_nil)))))) b_nil)
  (b_cons (s_if (t_w (w_or (t_eq hr.units (vv 2) v_int) (w_or1 (t_gt (v_len rfl T.b_len (a_cons (v_ix (vv 1) (vv 4)) a_nil)) v_int)))) (b_cons (s_setIx (vv 7) (vv 4) (v_sl (v_addA (v_addA (v_lst (a_cons (vv 6) a_nil)) (v_ix (vv 7) (vv 4))) (vLc (own := [("k", 9)]) wx.calm sc.nd rfl (by show ∀ v ∈ ([9] : List Nat), v ∉ ([0] : List Nat); decide) (by decide) (i_rng1 rfl T.b_range (a_cons v_int a_nil)) (blkOk_by (by show blkC ["store", "piles", "kind", "n", "v", "at", "name", "made", "pile", "k", "w"] (defScope (top 82)) _ _ = true; decide +kernel)) (fun _ _ _ _ _ => ⟨_, (g_name (i := 9) (by show 9 ∉ ([0] : List Nat); decide) sc.nd rfl (by first | exact Or.inl rfl | exact Or.inr rfl))⟩) (fun _ _ _ _ _ => ⟨_, ts_nil⟩) (fun _ _ _ _ _ => ⟨_, (vv 4)⟩))) o_none (o_some v_int)))
  (b_one (s_ret (v_tup (a_cons (v_frz 7 (vv 7)) (a_cons (v_tup (a_cons v_str (a_cons (v_tup (a_cons v_str (a_cons v_int a_nil))) a_nil))) a_nil)))))) b_nil)
  (b_cons (s_setIx (vv 7) (vv 4) (v_addA (v_addA (v_sl (v_ix (vv 7) (vv 4)) o_none (o_some (vv 5))) (v_lst (a_cons (vv 6) a_nil))) (v_sl (v_ix (vv 7) (vv 4)) (o_some (vv 5)) o_none)))
  (b_one (s_ret (v_tup (a_cons (v_frz 7 (vv 7)) (a_cons (v_tup (a_cons v_str (a_cons (v_tup (a_cons (vv 6) a_nil)) a_nil))) a_nil)))))))))))))))), ?_⟩)
  · obtain ⟨t, st, pss, rfl, _⟩ := h; rfl
  · obtain ⟨t, st, pss, rfl, hst, ht, hck, hq⟩ := hc
    obtain ⟨p1, p2, p3, p4⟩ := chkPiles_names hck
    dsimp!
    rw [seq_eq]
    dsimp!
    refine ⟨t, st, 6, rfl, hst, by omega, by decide, fun kind st1 k0 k1 s1 => ?_⟩
    dsimp!
    rw [seq_eq]
    dsimp! [gLenE (show (pilesL pss).itm = some (false, pss.map lstI) from rfl), List.length_map]
    rw [seq_eq]
    dsimp!
    refine ⟨_, st1, _, rfl, s1, by omega, natAbs_mono (a := 20) (natAbs_lt (by omega) (by omega)) (by decide), fun v st2 v0 v1 s2 => ?_⟩
    dsimp!
    rw [seq_eq]
    have hv : InN pss v := ⟨v0, by omega⟩
    have av : L2.atI (pss.map lstI) v = some (lstI (pileAt pss v)) := by rw [atI_pos _ _ v0, List.getElem?_map, pileAt_get hv]; rfl
    dsimp! [show (pilesL pss).itm = some (false, pss.map lstI) from rfl, av, gLenE (itm_lstI (pileAt pss v)), List.length_map]
    refine ⟨_, st2, _, rfl, s2, by omega, natAbs_mono (a := 20) (natAbs_lt (by omega) (by have := pile_le hv; omega)) (by decide), fun at_ st3 a0 a1 s3 => ?_⟩
    dsimp!
    rw [seq_eq]
    dsimp!
    refine ⟨_, st3, pss.length, rfl, s3, by omega, by omega, by omega, fun name st4 hname s4 => ?_⟩
    dsimp!
    rw [seq_eq]
    dsimp!
    refine r_lc (e1 := [some (.lst st4), some (.st (pilesL pss)), some (.st (.int kind)), some (.st (.int pss.length)), some (.st (.int v)), some (.st (.int at_)), some (.st (.int name)), none, none, none, none])
      (fun m acc e => e = [some (.lst st4), some (.st (pilesL pss)), some (.st (.int kind)), some (.st (.int pss.length)), some (.st (.int v)), some (.st (.int at_)), some (.st (.int name)), none, none, none, none] ∧ acc = (pss.take m).map lstI) pss.length (fun i => (pss.map lstI).getD i .non) (fun Q q => by
        simp! [show (pilesL pss).items = some (pss.map lstI) from rfl, List.length_map]
        exact q) ⟨rfl, rfl⟩ (fun m acc e hm ⟨he, ha⟩ => ?_) fun acc e ⟨he, ha⟩ => ?_
    · subst he ha
      obtain ⟨ns, hns⟩ := get_lt hm
      rw [getD_lstI hns]
      simp! [itm_lstI]
      refine ⟨szLt (by rw [List.length_take]; omega), ?_⟩
      rw [take_snoc hns, List.map_append]; rfl
    · subst he ha
      rw [List.take_length]
      dsimp!
      rw [seq_eq]
      dsimp!
      by_cases q0 : kind = 0
      · rw [decide_eq_true q0]
        simp!
        refine ⟨szOk (by decide), szOk (by decide), szOk (by decide), szOk (by decide), ?_⟩
        exact hq (.lst []) [] .empty st4 ⟨false, [], rfl, .nil⟩ rfl (s4.mono (by omega))
      · rw [decide_eq_false q0]
        dsimp!
        rw [seq_eq]
        dsimp!
        by_cases q1 : kind = 1
        · rw [decide_eq_true q1]
          dsimp!
          refine r_lc (e1 := [some (.lst st4), some (.st (pilesL pss)), some (.st (.int kind)), some (.st (.int pss.length)), some (.st (.int v)), some (.st (.int at_)), some (.st (.int name)), some (.lst ((pss.map lstI).map .st)), none, none, none]) (fun m acc e => e = [some (.lst st4), some (.st (pilesL pss)), some (.st (.int kind)), some (.st (.int pss.length)), some (.st (.int v)), some (.st (.int at_)), some (.st (.int name)), some (.lst ((pss.map lstI).map .st)), none, none, none] ∧ acc = (List.replicate m ([] : List Int)).map lstI) 41 _ (fun Q q => by
              simp!
              exact ⟨⟨by decide, by decide⟩, q⟩) ⟨rfl, rfl⟩ (fun m acc e hm ⟨he, ha⟩ => ?_) fun acc e ⟨he, ha⟩ => ?_
          · subst he ha
            simp!
            refine ⟨szOk (by decide), szLt (by rw [List.length_replicate]; omega), ?_⟩
            rw [List.map_replicate, show lstI [] = VL.D.lst [] from rfl, ← List.replicate_succ', List.replicate_succ]
          · subst he ha
            simp!
            refine ⟨szOk (by decide), szOk (by decide), szOk (by decide), ?_⟩
            exact hq (pilesL (List.replicate 41 [])) (List.replicate 41 []) .stations st4 (pilesL_ok _) rfl (s4.mono (by omega))
        · rw [decide_eq_false q1]
          dsimp!
          rw [seq_eq]
          dsimp!
          have hn6 : (pss.length : Int) ≤ 40 := by omega
          by_cases q2 : kind = 2 ∧ 5 < pss.length
          · rw [decide_eq_true q2.1, decide_eq_true (show (5 : Int) < pss.length by omega)]
            dsimp!
            rw [seq_eq]
            dsimp!
            refine r_lc (e1 := [some (.lst st4), some (.st (pilesL pss)), some (.st (.int kind)), some (.st (.int pss.length)), some (.st (.int v)), some (.st (.int at_)), some (.st (.int name)), some (.lst ((pss.map lstI).map .st)), none, none, none]) (fun m acc e => e = [some (.lst st4), some (.st (pilesL pss)), some (.st (.int kind)), some (.st (.int pss.length)), some (.st (.int v)), some (.st (.int at_)), some (.st (.int name)), some (.lst ((pss.map lstI).map .st)), none, none, none] ∧ acc = ((List.range m).map fun (w : Nat) => List.replicate 60 (w : Int)).map lstI) 5 _ (fun Q q => by
                simp!
                exact ⟨⟨by decide, by decide⟩, q⟩) ⟨rfl, rfl⟩ (fun m acc e hm ⟨he, ha⟩ => ?_) fun acc e ⟨he, ha⟩ => ?_
            · subst he ha
              dsimp!
              refine r_lc (e1 := [some (.lst st4), some (.st (pilesL pss)), some (.st (.int kind)), some (.st (.int pss.length)), some (.st (.int v)), some (.st (.int at_)), some (.st (.int name)), some (.lst ((pss.map lstI).map .st)), none, none, some (.st (.int m))]) (fun j acc e => e = [some (.lst st4), some (.st (pilesL pss)), some (.st (.int kind)), some (.st (.int pss.length)), some (.st (.int v)), some (.st (.int at_)), some (.st (.int name)), some (.lst ((pss.map lstI).map .st)), none, none, some (.st (.int m))] ∧ acc = (List.replicate j (m : Int)).map .int) 60 _ (fun Q q => by
                  simp!
                  exact ⟨⟨by decide, by decide⟩, q⟩) ⟨rfl, rfl⟩ (fun j acc e hj ⟨he, ha⟩ => ?_) fun acc e ⟨he, ha⟩ => ?_
              · subst he ha
                simp!
                refine ⟨szLt (by rw [List.length_replicate]; omega), ?_⟩
                rw [List.map_replicate, ← List.replicate_succ', List.replicate_succ]
              · subst he ha
                simp!
                refine ⟨szLt (by rw [List.length_range]; omega), ?_⟩
                rw [List.range_succ, List.map_append, List.map_append]; rfl
            · subst he ha
              have f5 : full5 v pss.length = ((List.range 5).map fun (w : Nat) => List.replicate 60 (w : Int)) ++ [[v]] ++ List.replicate (pss.length - 6) [] := rfl
              have f5l : ((List.range 5).map fun (w : Nat) => List.replicate 60 (w : Int)).length = 5 := rfl
              generalize ((List.range 5).map fun (w : Nat) => List.replicate 60 (w : Int)) = F5 at f5 f5l ⊢
              dsimp! [List.length_map, f5l]
              refine ⟨szOk (by decide), szOk (by decide), szOk (by decide), ?_⟩
              refine r_lc (e1 := [some (.lst st4), some (.st (pilesL pss)), some (.st (.int kind)), some (.st (.int pss.length)), some (.st (.int v)), some (.st (.int at_)), some (.st (.int name)), some (.lst ((pss.map lstI).map .st)), none, none, none]) (fun m acc e => e = [some (.lst st4), some (.st (pilesL pss)), some (.st (.int kind)), some (.st (.int pss.length)), some (.st (.int v)), some (.st (.int at_)), some (.st (.int name)), some (.lst ((pss.map lstI).map .st)), none, none, none] ∧ acc = (List.replicate m ([] : List Int)).map lstI) (pss.length - 6) _ (fun Q q => by
                simp!
                have e6 : ((pss.length : Int) - 6).toNat = pss.length - 6 := by omega
                rw [e6]
                exact ⟨⟨by omega, by omega⟩, q⟩) ⟨rfl, rfl⟩ (fun m acc e hm ⟨he, ha⟩ => ?_) fun acc e ⟨he, ha⟩ => ?_
              · subst he ha
                simp!
                refine ⟨szOk (by decide), szLt (by rw [List.length_replicate]; omega), ?_⟩
                rw [List.map_replicate, show lstI [] = VL.D.lst [] from rfl, ← List.replicate_succ', List.replicate_succ]
              · subst he ha
                simp! [List.length_append, List.length_map, List.length_replicate, f5l]
                refine ⟨szOk (by omega), szOk (by decide), szOk (by decide), szOk (by decide), ?_⟩
                have e7 : VL.D.lst (F5.map lstI ++ [VL.D.lst [VL.D.int v]] ++ (List.replicate (pss.length - 6) ([] : List Int)).map lstI) = pilesL (full5 v pss.length) := by
                  rw [f5]; unfold pilesL; simp only [List.map_append]; rfl
                rw [e7]
                exact hq _ _ .slips st4 (pilesL_ok _) (full5_chk (by omega) p2 ⟨v0, hv.2⟩) (s4.mono (by omega))
          · refine and2 (fun h => q2 ⟨h.1, by omega⟩) ?_
            rw [seq_eq]
            dsimp! [show (pilesL pss).itm = some (false, pss.map lstI) from rfl, av, gLenE (itm_lstI (pileAt pss v)), List.length_map]
            have hpl := pile_le hv
            have hps : (pileAt pss v).length ≤ 60 := (chkRow_ok (chkPiles_rows hck _ (List.mem_of_getElem? (pileAt_get hv)))).1
            have hpn := (chkRow_ok (chkPiles_rows hck _ (List.mem_of_getElem? (pileAt_get hv)))).2
            have i7 : ixN pss.length v = some v.toNat := ixN_pos _ _ v0 hv.2
            have setM : ∀ row : List Int, VL.D.lst ((pss.map lstI).set v.toNat (lstI row)) = pilesL (pss.set v.toNat row) := fun row => by unfold pilesL; rw [List.map_set]
            by_cases q3 : kind = 3 ∨ 59 < (pileAt pss v).length
            · refine or2 (q3.elim Or.inl fun h => .inr (by omega)) ?_
              rw [seq_eq]
              dsimp! [av, lstI]
              refine ⟨szOk (by decide), szOk (by first | omega | (simp; omega)), ?_⟩
              refine r_lc (e1 := [some (.lst st4), some (.st (pilesL pss)), some (.st (.int kind)), some (.st (.int pss.length)), some (.st (.int v)), some (.st (.int at_)), some (.st (.int name)), some (.lst ((pss.map lstI).map .st)), none, none, none]) (fun m acc e => e = [some (.lst st4), some (.st (pilesL pss)), some (.st (.int kind)), some (.st (.int pss.length)), some (.st (.int v)), some (.st (.int at_)), some (.st (.int name)), some (.lst ((pss.map lstI).map .st)), none, none, none] ∧ acc = (List.replicate m v).map .int) 60 _ (fun Q q => by
                simp!
                exact ⟨⟨by decide, by decide⟩, q⟩) ⟨rfl, rfl⟩ (fun m acc e hm ⟨he, ha⟩ => ?_) fun acc e ⟨he, ha⟩ => ?_
              · subst he ha
                simp!
                refine ⟨szLt (by rw [List.length_replicate]; omega), ?_⟩
                rw [List.map_replicate, ← List.replicate_succ', List.replicate_succ]
              · subst he ha
                have hrl : (List.replicate 60 v).length = 60 := List.length_replicate
                generalize hR : List.replicate 60 v = R60 at hrl ⊢
                have cA : cutD (VL.D.int name :: ((pileAt pss v).map VL.D.int ++ R60.map VL.D.int)) none (some 61) = (([name] ++ pileAt pss v ++ R60).take 61).map .int := by
                  have e : VL.D.int name :: ((pileAt pss v).map VL.D.int ++ R60.map VL.D.int) = ([name] ++ pileAt pss v ++ R60).map .int := by simp only [List.map_append]; rfl
                  rw [e]
                  have := cut_to (([name] ++ pileAt pss v ++ R60).map VL.D.int) (j := 61) (by simp; omega)
                  rw [List.map_take]; exact this
                have hrow : chkRow pss.length 60 .pile (([name] ++ pileAt pss v ++ R60).take 61) = some .pile := chkRow_long (by rw [List.length_take]; simp; omega)
                generalize ([name] ++ pileAt pss v ++ R60).take 61 = row at cA hrow
                simp! [i7, List.length_map, cA]
                refine ⟨szOk (by first | omega | (simp; omega)), ?_⟩
                simp_all!
                (try simp only [cA])
                rw [show VL.D.lst (row.map VL.D.int) = lstI row from rfl, setM]
                have fin := hq _ _ .pile st4 (pilesL_ok _) (chkPiles_set hck hv hrow) (s4.mono (by omega))
                first
                  | exact ⟨szOk (by decide), szOk (by decide), szOk (by decide), fin⟩
                  | exact fin
            · refine nor2 (fun h => q3 (h.elim Or.inl fun h => .inr (by omega))) ?_
              have hat : at_ ≤ (pileAt pss v).length := by omega
              obtain ⟨j, rfl⟩ := Int.eq_ofNat_of_zero_le a0
              have cA : cutD ((pileAt pss v).map VL.D.int) none (some (j : Int)) = ((pileAt pss v).take j).map .int := by rw [cut_to _ (by rw [List.length_map]; omega), List.map_take]
              have cB : cutD ((pileAt pss v).map VL.D.int) (some (j : Int)) none = ((pileAt pss v).drop j).map .int := by rw [cut_from _ (by rw [List.length_map]; omega), List.map_drop]
              simp! [av, itm_lstI, cA, cB, i7, List.length_map]
              have hj : j ≤ (pileAt pss v).length := by omega
              have hp59 : (pileAt pss v).length ≤ 59 := by
                by_cases z : 59 < (pileAt pss v).length
                · exact absurd (.inr z) q3
                · omega
              have e9 : VL.D.lst (((pileAt pss v).take j).map VL.D.int ++ [VL.D.int name] ++ ((pileAt pss v).drop j).map VL.D.int) = lstI ((pileAt pss v).take j ++ [name] ++ (pileAt pss v).drop j) := by unfold lstI; simp only [List.map_append]; rfl
              rw [e9, setM]
              refine ⟨szOk (by decide), szOk (by rw [List.length_take]; omega), szOk (by simp; omega), szOk (by decide), szOk (by decide), szOk (by decide), ?_⟩
              refine hq _ _ (.bad name) st4 (pilesL_ok _) (chkPiles_set hck hv (chkRow_bad (by simp; omega) (fun y hy => hpn y (List.mem_of_mem_take hy)) hname)) (s4.mono (by omega))
end
end K80
-- W_law_trouble
set_option maxHeartbeats 4000000
namespace K80
open PySem PySem.Spec L2 VL
theorem sc_law_trouble : FnScope ["store", "piles", "starts", "one", "pile", "n", "at", "two", "kind", "k", "which", "told", "due"] ["store", "piles", "starts"] (defScope (top 83)) := ⟨rfl, rfl, rfl, by decide +kernel, rfl, by decide +kernel, by decide +kernel⟩
def C_law_trouble (K : Fr) : Ctr := fun os Q E => ∃ (t : Nat) (st : List OD) (pss : Piles) (starts : List Int), os = [.lst st, .st (pilesL pss), .st (lstI starts)] ∧ StoreOk t st ∧ t < 2 ^ 10000 ∧ chkPiles pss = none ∧ (∀ x ∈ starts, InN pss x) ∧ starts.length ≤ 500 ∧
  ∀ (st' : List OD), Q (.st (.bl true)) [.lst st', .st (pilesL pss), .st (lstI starts)]
section
variable {P : Program} {w : World} {K : Fr} {mg : Str → Option Value} {base : Heap}
theorem ok_law_trouble (T : Tx P w K mg base) : Ok P w K mg base "_law_trouble" ["store", "piles", "starts"] 9 (C_law_trouble K) := by
  have o_law_take := ok_law_take (P := P) (w := w) (base := base) T
  have o_law_odd := ok_law_odd (P := P) (w := w) (base := base) T
  have o_law_odd_piles := ok_law_odd_piles (P := P) (w := w) (base := base) T
  have o_law_ask := ok_law_ask (P := P) (w := w) (base := base) T
  have o_law_told := ok_law_told (P := P) (w := w) (base := base) T
  have sc : FnScope ["store", "piles", "starts", "one", "pile", "n", "at", "two", "kind", "k", "which", "told", "due"] ["store", "piles", "starts"] (defScope (top 83)) := sc_law_trouble
  refine ok_of [0] T.d_law_trouble sc (fun fd F => F.bindsN fun _ _ _ _ _ _ us hl => match us, hl with | [_, _, _], _ => rfl) (fun os Q E h => ?_) (fun cdv A outer s H G s0 E os Q1 E1 hr hc wx => ⟨_, _, (b_cons (s_set (i := 3) (by show 3 ∉ ([0] : List Nat); decide) sc.nd rfl (by first | exact Or.inl rfl | exact Or.inr rfl) (v_tup (a_cons (vLc (own := [("pile", 4)]) wx.calm sc.nd rfl (by show ∀ v ∈ ([4] : List Nat), v ∉ ([0] : List Nat); decide) (by decide) (i_seq (vv 1)) (blkOk_by (by show blkC ["store", "piles", "starts", "one", "pile", "n", "at", "two", "kind", "k", "which", "told", "due"] (defScope (top 83)) _ _ = true; decide +kernel)) (fun _ _ _ _ _ => ⟨_, (g_name (i := 4) (by show 4 ∉ ([0] : List Nat); decide) sc.nd rfl (by first | exact Or.inl rfl | exact Or.inr rfl))⟩) (fun _ _ _ _ _ => ⟨_, ts_nil⟩) (fun _ _ _ _ _ => ⟨_, (v_list rfl T.b_list bt_list (a_cons (vv 4) a_nil))⟩)) (a_cons (v_tup a_nil) a_nil))))
  (b_cons (s_set (i := 5) (by show 5 ∉ ([0] : List Nat); decide) sc.nd rfl (by first | exact Or.inl rfl | exact Or.inr rfl) (v_len rfl T.b_len (a_cons (vv 1) a_nil)))
  (b_cons (s_set (i := 6) (by show 6 ∉ ([0] : List Nat); decide) sc.nd rfl (by first | exact Or.inl rfl | exact Or.inr rfl) (v_callO wx o_law_take (hr.mono (by decide)) rfl (a_cons (vv 0) (a_cons (v_addA (v_len rfl T.b_len (a_cons (vv 2) a_nil)) v_int) a_nil))))
  (b_cons (s_set (i := 7) (by show 7 ∉ ([0] : List Nat); decide) sc.nd rfl (by first | exact Or.inl rfl | exact Or.inr rfl) (v_tup (a_cons (v_addA (v_addA (v_sl (vv 2) o_none (o_some (vv 6))) (v_lst (a_cons (v_callO wx o_law_odd (hr.mono (by decide)) rfl (a_cons (vv 0) (a_cons (vv 5) a_nil))) a_nil))) (v_sl (vv 2) (o_some (vv 6)) o_none)) (a_cons (v_tup a_nil) a_nil))))
  (b_cons (s_set (i := 7) (by show 7 ∉ ([0] : List Nat); decide) sc.nd rfl (by first | exact Or.inl rfl | exact Or.inr rfl) (v_tup (a_cons (v_ix (vv 7) v_int) (a_cons (v_tup (a_cons v_str (a_cons (v_tup (a_cons (v_ix (v_ix (vv 7) v_int) (vv 6)) a_nil)) a_nil))) a_nil))))
  (b_cons (s_set (i := 8) (by show 8 ∉ ([0] : List Nat); decide) sc.nd rfl (by first | exact Or.inl rfl | exact Or.inr rfl) (v_callO wx o_law_take (hr.mono (by decide)) rfl (a_cons (vv 0) (a_cons v_int a_nil))))
  (b_cons (s_if (t_lt (vv 8) v_int) (b_one (s_set (i := 3) (by show 3 ∉ ([0] : List Nat); decide) sc.nd rfl (by first | exact Or.inl rfl | exact Or.inr rfl) (v_callO wx o_law_odd_piles (hr.mono (by decide)) rfl (a_cons (vv 0) (a_cons (vv 1) a_nil))))) b_nil)
  (b_cons (s_if (t_w (w_or (t_eq hr.units (vv 8) v_int) (w_or1 (t_gt (v_len rfl T.b_len (a_cons (v_ix (vv 7) v_int) a_nil)) v_int)))) (b_one (s_set (i := 7) (by show 7 ∉ ([0] : List Nat); decide) sc.nd rfl (by first | exact Or.inl rfl | exact Or.inr rfl) (v_tup (a_cons (v_sl (v_addA (v_ix (vv 7) v_int) (vLc (own := [("k", 9)]) wx.calm sc.nd rfl (by show ∀ v ∈ ([9] : List Nat), v ∉ ([0] : List Nat); decide) (by decide) (i_rng1 rfl T.b_range (a_cons v_int a_nil)) (blkOk_by (by show blkC ["store", "piles", "starts", "one", "pile", "n", "at", "two", "kind", "k", "which", "told", "due"] (defScope (top 83)) _ _ = true; decide +kernel)) (fun _ _ _ _ _ => ⟨_, (g_name (i := 9) (by show 9 ∉ ([0] : List Nat); decide) sc.nd rfl (by first | exact Or.inl rfl | exact Or.inr rfl))⟩) (fun _ _ _ _ _ => ⟨_, ts_nil⟩) (fun _ _ _ _ _ => ⟨_, v_int⟩))) o_none (o_some v_int)) (a_cons (v_tup (a_cons v_str (a_cons (v_tup (a_cons v_str (a_cons v_int a_nil))) a_nil))) a_nil))))) b_nil)
  (b_cons (s_for wx.po wx.calm (i_rng1 rfl T.b_range (a_cons v_int a_nil)) (g_name (i := 10) (by show 10 ∉ ([0] : List Nat); decide) sc.nd rfl (by first | exact Or.inl rfl | exact Or.inr rfl)) (b_cons (s_set (i := 11) (by show 11 ∉ ([0] : List Nat); decide) sc.nd rfl (by first | exact Or.inl rfl | exact Or.inr rfl) (v_callO wx o_law_ask (hr.mono (by decide)) rfl (a_cons (vv 10) (a_cons (v_ix (vv 3) v_int) (a_cons (v_ix (vv 7) v_int) a_nil)))))
  (b_cons (s_set (i := 12) (by show 12 ∉ ([0] : List Nat); decide) sc.nd rfl (by first | exact Or.inl rfl | exact Or.inr rfl) (v_ix (vv 3) v_int))
  (b_cons (s_if (t_w (w_and (t_eq hr.units (vv 10) v_int) (w_and1 (t_eq hr.units (vv 12) (v_tup a_nil))))) (b_one (s_set (i := 12) (by show 12 ∉ ([0] : List Nat); decide) sc.nd rfl (by first | exact Or.inl rfl | exact Or.inr rfl) (v_ix (vv 7) v_int))) b_nil)
  (b_cons (s_if (t_w (w_and (t_ne hr.units (vv 12) (v_tup a_nil)) (w_and1 (t_not (t_val (v_callO wx o_law_told (hr.mono (by decide)) rfl (a_cons (vv 11) (a_cons v_int (a_cons (vv 12) a_nil))))))))) (b_one (s_ret v_bl)) b_nil)
  (b_one (s_if (t_w (w_and (t_eq hr.units (vv 12) (v_tup a_nil)) (w_and1 (t_ne hr.units (v_ix (vv 11) v_int) v_int)))) (b_one (s_ret v_bl)) b_nil)))))))
  (b_one (s_ret v_bl))))))))))), ?_⟩)
  · obtain ⟨t, st, pss, starts, rfl, _⟩ := h; rfl
  · obtain ⟨t, st, pss, starts, rfl, hst, ht, hck, hx, hl, hq⟩ := hc
    obtain ⟨p1, p2, p3, p4⟩ := chkPiles_names hck
    dsimp!
    rw [seq_eq]
    dsimp!
    refine r_lc (e1 := [some (.lst st), some (.st (pilesL pss)), some (.st (lstI starts)), none, none, none, none, none, none, none, none, none, none])
      (fun m acc e => e = [some (.lst st), some (.st (pilesL pss)), some (.st (lstI starts)), none, none, none, none, none, none, none, none, none, none] ∧ acc = (pss.take m).map lstI) pss.length (fun i => (pss.map lstI).getD i .non) (fun Q q => by
        simp! [show (pilesL pss).items = some (pss.map lstI) from rfl, List.length_map]
        exact q) ⟨rfl, rfl⟩ (fun m acc e hm ⟨he, ha⟩ => ?_) fun acc e ⟨he, ha⟩ => ?_
    · subst he ha
      obtain ⟨ns, hns⟩ := get_lt hm
      rw [getD_lstI hns]
      simp! [itm_lstI]
      refine ⟨szLt (by rw [List.length_take]; omega), ?_⟩
      rw [take_snoc hns, List.map_append]; rfl
    · subst he ha
      rw [List.take_length]
      dsimp!
      refine ⟨szOk (by decide), szOk (by decide), ?_⟩
      rw [seq_eq]
      dsimp! [gLenE (show (pilesL pss).itm = some (false, pss.map lstI) from rfl), List.length_map]
      rw [seq_eq]
      dsimp! [gLenE (itm_lstI starts), List.length_map]
      refine ⟨t, st, _, rfl, hst, by omega, natAbs_mono (a := 20) (natAbs_lt (by omega) (by omega)) (by decide), fun at_ st1 a0 a1 s1 => ?_⟩
      dsimp!
      rw [seq_eq]
      have hat : at_ ≤ starts.length := by omega
      obtain ⟨j, rfl⟩ := Int.eq_ofNat_of_zero_le a0
      have cA : cutD (starts.map VL.D.int) none (some (j : Int)) = (starts.take j).map .int := by rw [cut_to _ (by rw [List.length_map]; omega), List.map_take]
      have cB : cutD (starts.map VL.D.int) (some (j : Int)) none = (starts.drop j).map .int := by rw [cut_from _ (by rw [List.length_map]; omega), List.map_drop]
      dsimp! [itm_lstI, cA, cB]
      refine ⟨_, st1, pss.length, rfl, s1, by omega, by omega, by omega, fun name st2 hname s2_ => ?_⟩
      dsimp! [itm_lstI, cA, cB]
      have hjl : j ≤ starts.length := by omega
      have e2 : VL.D.lst ((starts.take j).map VL.D.int ++ [VL.D.int name] ++ (starts.drop j).map VL.D.int) = lstI (starts.take j ++ [name] ++ starts.drop j) := by unfold lstI; simp only [List.map_append]; rfl
      rw [e2]
      have s2l : (starts.take j ++ [name] ++ starts.drop j).length = starts.length + 1 := by simp; omega
      have aj : L2.atI ((starts.take j ++ [name] ++ starts.drop j).map VL.D.int) (j : Int) = some (.int name) := map_at (by omega) (by
        rw [Int.toNat_natCast, List.append_assoc, List.getElem?_append_right (by rw [List.length_take]; omega), List.length_take, show j - min j starts.length = 0 by omega]; rfl)
      have hb2 : (starts.take j ++ [name] ++ starts.drop j).length ≤ 40 → chkRow pss.length 40 .couriers (starts.take j ++ [name] ++ starts.drop j) = some (.bad name) := fun h => chkRow_bad h (fun y hy => hx y (List.mem_of_mem_take hy)) hname
      refine ⟨szOk (by decide), szOk (by rw [List.length_take]; omega), szOk (by simp; omega), szOk (by decide), szOk (by decide), ?_⟩
      generalize (starts.take j ++ [name] ++ starts.drop j) = s2 at s2l aj hb2 ⊢
      rw [seq_eq]
      dsimp! [itm_lstI, aj]
      refine ⟨szOk (by decide), szOk (by decide), szOk (by decide), ?_⟩
      rw [seq_eq]
      dsimp!
      refine ⟨_, st2, 4, rfl, s2_, by omega, by decide, fun kind st3 k0 k1 s3 => ?_⟩
      dsimp!
      rw [show VL.D.tup [VL.D.str (Str.ofString "BadStation"), VL.D.tup [VL.D.int name]] = erR (.bad name) from rfl]
      refine r_cut (fun e => ∃ (d : VL.D) (pss1 : Piles) (due : VL.D) (st4 : List OD), e = [some (.lst st4), some (.st (pilesL pss)), some (.st (lstI starts)), some (.st (.tup [d, due])), none, some (.st (.int pss.length)), some (.st (.int j)), some (.st (.tup [lstI s2, erR (.bad name)])), some (.st (.int kind)), none, none, none, none] ∧ StoreOk (t + 1000) st4 ∧ PilesD d pss1 ∧ ((due = .tup [] ∧ pss1 = pss) ∨ ∃ er, due = erR er ∧ chkPiles pss1 = some er)) (fun R hR => ?_) fun e he => ?_
      · dsimp!
        by_cases q : kind < 2
        · rw [decide_eq_true q]
          dsimp!
          refine ⟨_, st3, pss, rfl, s3, by omega, hck, fun d pss' er st4 hd her s4 => ?_⟩
          simp_all!
          exact hR _ ⟨d, pss', erR er, st4, rfl, s4.mono (by omega), hd, .inr ⟨er, rfl, her⟩⟩
        · rw [decide_eq_false q]
          exact hR _ ⟨pilesL pss, pss, .tup [], st3, rfl, s3.mono (by omega), pilesL_ok pss, .inl ⟨rfl, rfl⟩⟩
      · obtain ⟨d, pss1, due, st4, rfl, s4, hd, hdue⟩ := he
        refine r_cut (fun e => ∃ (s3 : List Int) (er3 : Er), e = [some (.lst st4), some (.st (pilesL pss)), some (.st (lstI starts)), some (.st (.tup [d, due])), none, some (.st (.int pss.length)), some (.st (.int j)), some (.st (.tup [lstI s3, erR er3])), some (.st (.int kind)), none, none, none, none] ∧ chkRow pss.length 40 .couriers s3 = some er3) (fun R hR => ?_) fun e he => ?_
        · dsimp! [gLenE (itm_lstI s2), List.length_map]
          by_cases q : kind = 2 ∨ 40 < s2.length
          · refine or2 (q.elim Or.inl fun h => .inr (by omega)) ?_
            refine r_lc (e1 := [some (.lst st4), some (.st (pilesL pss)), some (.st (lstI starts)), some (.st (.tup [d, due])), none, some (.st (.int pss.length)), some (.st (.int j)), some (.st (.tup [lstI s2, erR (.bad name)])), some (.st (.int kind)), none, none, none, none]) (fun m acc e => e = [some (.lst st4), some (.st (pilesL pss)), some (.st (lstI starts)), some (.st (.tup [d, due])), none, some (.st (.int pss.length)), some (.st (.int j)), some (.st (.tup [lstI s2, erR (.bad name)])), some (.st (.int kind)), none, none, none, none] ∧ acc = (List.replicate m (0 : Int)).map .int) 41 _ (fun Q q => by
                simp!
                exact ⟨⟨by decide, by decide⟩, q⟩) ⟨rfl, rfl⟩ (fun m acc e hm ⟨he, ha⟩ => ?_) fun acc e ⟨he, ha⟩ => ?_
            · subst he ha
              simp!
              refine ⟨szLt (by rw [List.length_replicate]; omega), ?_⟩
              rw [List.map_replicate, ← List.replicate_succ', List.replicate_succ]
            · subst he ha
              have hrl : (List.replicate 41 (0 : Int)).length = 41 := List.length_replicate
              generalize List.replicate 41 (0 : Int) = R41 at hrl ⊢
              have cC : cutD (s2.map VL.D.int ++ R41.map VL.D.int) none (some 41) = ((s2 ++ R41).take 41).map .int := by
                have := cut_to ((s2 ++ R41).map VL.D.int) (j := 41) (by simp; omega)
                rw [List.map_take, ← List.map_append]; exact this
              have hrow : chkRow pss.length 40 .couriers ((s2 ++ R41).take 41) = some .couriers := chkRow_long (by rw [List.length_take]; simp; omega)
              generalize (s2 ++ R41).take 41 = row at cC hrow
              simp! [lstI, cC, List.length_map]
              refine ⟨szOk (by omega), szOk (by decide), szOk (by decide), szOk (by decide), ?_⟩
              exact hR _ ⟨row, .couriers, rfl, hrow⟩
          · refine nor2 (fun h => q (h.elim Or.inl fun h => .inr (by omega))) ?_
            exact hR _ ⟨s2, .bad name, rfl, hb2 (by
              by_cases z : 40 < s2.length
              · exact absurd (.inr z) q
              · omega)⟩
        · obtain ⟨s3, er3, rfl, hr3⟩ := he
          rw [seq_eq]
          refine r_for (e1 := [some (.lst st4), some (.st (pilesL pss)), some (.st (lstI starts)), some (.st (.tup [d, due])), none, some (.st (.int pss.length)), some (.st (.int j)), some (.st (.tup [lstI s3, erR er3])), some (.st (.int kind)), none, none, none, none]) (fun m e => ∃ x10 x11 x12, e = [some (.lst st4), some (.st (pilesL pss)), some (.st (lstI starts)), some (.st (.tup [d, due])), none, some (.st (.int pss.length)), some (.st (.int j)), some (.st (.tup [lstI s3, erR er3])), some (.st (.int kind)), none, x10, x11, x12]) 3 _ (fun Q q => by
              simp!
              exact ⟨⟨by decide, by decide⟩, q⟩) ⟨none, none, none, rfl⟩ (fun m e hm ⟨x10, x11, x12, he⟩ => ?_) fun e ⟨x10, x11, x12, he⟩ => ?_
          · subst he
            have hw : (m : Int) = 0 ∨ (m : Int) = 1 ∨ (m : Int) = 2 := by omega
            dsimp!
            rw [seq_eq]
            dsimp!
            refine ⟨m, pss1, s3, d, _, false, rfl, hd, itm_lstI s3, hw, fun ans ha => ?_⟩
            dsimp!
            rw [seq_eq]
            dsimp!
            refine r_cut (fun e => ∃ due2, e = [some (.lst st4), some (.st (pilesL pss)), some (.st (lstI starts)), some (.st (.tup [d, due])), none, some (.st (.int pss.length)), some (.st (.int j)), some (.st (.tup [lstI s3, erR er3])), some (.st (.int kind)), none, some (.st (.int m)), some (.st ans), some (.st due2)] ∧ ((∃ er, due2 = erR er ∧ ans = refD er) ∨ (due2 = .tup [] ∧ ∃ d', ans = okD d'))) (fun R hR => ?_) fun e he => ?_
            · dsimp!
              by_cases q : (m : Int) = 2
              · rw [decide_eq_true q]
                rw [q] at ha
                rcases hdue with ⟨rfl, rfl⟩ | ⟨er, rfl, her⟩
                · refine ⟨szOk (by decide), nil_nil ?_⟩
                  simp_all!
                  exact hR _ ⟨_, rfl, .inl ⟨er3, rfl, ha.bad2 hck hr3⟩⟩
                · refine ⟨szOk (by decide), er_nil ?_⟩
                  simp_all!
                  exact hR _ ⟨_, rfl, .inl ⟨er, rfl, ha.bad (.inr (.inr rfl)) her⟩⟩
              · rw [decide_eq_false q]
                rcases hdue with ⟨rfl, rfl⟩ | ⟨er, rfl, her⟩
                · exact hR _ ⟨_, rfl, .inr ⟨rfl, ha.good (by omega) hck⟩⟩
                · exact hR _ ⟨_, rfl, .inl ⟨er, rfl, ha.bad hw her⟩⟩
            · obtain ⟨due2, rfl, hh⟩ := he
              rcases hh with ⟨er, rfl, rfl⟩ | ⟨rfl, d', rfl⟩
              · simp!
                refine ⟨szOk (by decide), er_nil ?_⟩
                simp_all!
                refine ⟨0, _, rfl, SameOk.er er, ?_⟩
                simp_all!
                refine ⟨szOk (by decide), er_nil ?_⟩
                simp_all!
                exact ⟨_, _, _, rfl⟩
              · simp!
                refine ⟨szOk (by decide), nil_nil ?_⟩
                simp_all!
                refine ⟨szOk (by decide), nil_nil ?_⟩
                simp! [okD]
                exact ⟨_, _, _, rfl⟩
          · subst he
            simp!
            exact hq st4
end
end K80
-- W_law
set_option maxHeartbeats 4000000
namespace K80
open PySem PySem.Spec L2 VL
theorem sc_law : FnScope ["script", "store", "great", "piles", "one", "pile", "name", "rule", "handed", "which", "starts"] ["script"] (defScope (top 84)) := ⟨rfl, rfl, rfl, by decide +kernel, rfl, by decide +kernel, by decide +kernel⟩
def C_law (K : Fr) : Ctr := fun os Q E => ∃ ns : List Int, os = [.st (.scr ns)] ∧ ns.length ≤ 63 ∧ Q (.st (.bl true)) os
section
variable {P : Program} {w : World} {K : Fr} {mg : Str → Option Value} {base : Heap}
theorem okf_law (T : Tx P w K mg base) : Okf P w K mg base "law" (top 84) [] [] ["script"] 10 (C_law K) := by
  have o_law_store := ok_law_store (P := P) (w := w) (base := base) T
  have o_law_take := ok_law_take (P := P) (w := w) (base := base) T
  have o_law_seats := ok_law_seats (P := P) (w := w) (base := base) T
  have o_law_rule := ok_law_rule (P := P) (w := w) (base := base) T
  have o_law_takes_all := ok_law_takes_all (P := P) (w := w) (base := base) T
  have o_law_least := ok_law_least (P := P) (w := w) (base := base) T
  have o_law_told := ok_law_told (P := P) (w := w) (base := base) T
  have o_law_ask := ok_law_ask (P := P) (w := w) (base := base) T
  have o_law_rows_of_starts := ok_law_rows_of_starts (P := P) (w := w) (base := base) T
  have o_law_judged := ok_law_judged (P := P) (w := w) (base := base) T
  have o_law_trouble := ok_law_trouble (P := P) (w := w) (base := base) T
  have sc : FnScope ["script", "store", "great", "piles", "one", "pile", "name", "rule", "handed", "which", "starts"] ["script"] (defScope (top 84)) := sc_law
  refine okf_of [] T.d_law sc (fun os Q E h => ?_) (fun cdv A outer s H G s0 E os Q1 E1 hr hc wx => ⟨_, _, (b_cons (s_set (i := 1) (by show 1 ∉ ([] : List Nat); decide) sc.nd rfl (by first | exact Or.inl rfl | exact Or.inr rfl) (v_callO wx o_law_store (hr.mono (by decide)) rfl (a_cons (vv 0) a_nil)))
  (b_cons (s_set (i := 2) (by show 2 ∉ ([] : List Nat); decide) sc.nd rfl (by first | exact Or.inl rfl | exact Or.inr rfl) (v_eq hr.units (v_callO wx o_law_take (hr.mono (by decide)) rfl (a_cons (vv 1) (a_cons v_int a_nil))) v_int))
  (b_cons (s_if (t_val (vv 2)) (b_cons (s_set (i := 3) (by show 3 ∉ ([] : List Nat); decide) sc.nd rfl (by first | exact Or.inl rfl | exact Or.inr rfl) (v_ix (v_callO wx o_law_seats (hr.mono (by decide)) rfl (a_cons (vv 1) (a_cons (v_addA v_int (v_callO wx o_law_take (hr.mono (by decide)) rfl (a_cons (vv 1) (a_cons v_int a_nil)))) (a_cons v_int (a_cons v_int a_nil))))) v_int))
  (b_one (s_if (t_eq hr.units (v_callO wx o_law_take (hr.mono (by decide)) rfl (a_cons (vv 1) (a_cons v_int a_nil))) v_int) (b_cons (s_set (i := 4) (by show 4 ∉ ([] : List Nat); decide) sc.nd rfl (by first | exact Or.inl rfl | exact Or.inr rfl) (v_callO wx o_law_take (hr.mono (by decide)) rfl (a_cons (vv 1) (a_cons (v_len rfl T.b_len (a_cons (vv 3) a_nil)) a_nil))))
  (b_one (sSetLc (i := 3) (own := [("pile", 5)]) (by show 3 ∉ ([] : List Nat); decide) wx.calm sc.nd rfl rfl (sw_true rfl rfl rfl (by decide +kernel)) rfl (by show ∀ v ∈ ([5] : List Nat), v ∉ ([] : List Nat); decide) (by decide) (i_seq (v_frz 3 (vv 3))) (blkOk_by (by show blkC ["script", "store", "great", "piles", "one", "pile", "name", "rule", "handed", "which", "starts"] (defScope (top 84)) _ _ = true; decide +kernel)) (fun _ _ _ _ _ => ⟨_, (g_name (i := 5) (by show 5 ∉ ([] : List Nat); decide) sc.nd rfl (by first | exact Or.inl rfl | exact Or.inr rfl))⟩) (fun _ _ _ _ _ => ⟨_, ts_nil⟩) (fun _ _ _ _ _ => ⟨_, (vLc (own := [("name", 6)]) wx.calm sc.nd rfl (by show ∀ v ∈ ([6] : List Nat), v ∉ ([] : List Nat); decide) (by decide) (i_seq (vv 5)) (blkOk_by (by with_unfolding_all rfl)) (fun _ _ _ _ _ => ⟨_, (g_name (i := 6) (by show 6 ∉ ([] : List Nat); decide) sc.nd rfl (by first | exact Or.inl rfl | exact Or.inr rfl))⟩) (fun _ _ _ _ _ => ⟨_, ts_nil⟩) (fun _ _ _ _ _ => ⟨_, (vv 4)⟩))⟩)))) b_nil))) (b_one (s_set (i := 3) (by show 3 ∉ ([] : List Nat); decide) sc.nd rfl (by first | exact Or.inl rfl | exact Or.inr rfl) (v_ix (v_callO wx o_law_seats (hr.mono (by decide)) rfl (a_cons (vv 1) (a_cons (v_addA v_int (v_callO wx o_law_take (hr.mono (by decide)) rfl (a_cons (vv 1) (a_cons v_int a_nil)))) (a_cons v_int (a_cons v_int a_nil))))) v_int))))
  (b_cons (s_set (i := 7) (by show 7 ∉ ([] : List Nat); decide) sc.nd rfl (by first | exact Or.inl rfl | exact Or.inr rfl) (v_callO wx o_law_rule (hr.mono (by decide)) rfl (a_cons (v_frz 3 (vv 3)) a_nil)))
  (b_cons (s_if (t_not (t_val (v_callO wx o_law_takes_all (hr.mono (by decide)) rfl (a_cons (v_frz 3 (vv 3)) (a_cons (v_frz 7 (vv 7)) a_nil))))) (b_one (s_ret v_bl)) b_nil)
  (b_cons (s_if (t_w (w_and (t_not (t_val (vv 2))) (w_and1 (t_ne hr.units (v_callO wx o_law_least (hr.mono (by decide)) rfl (a_cons (v_frz 3 (vv 3)) a_nil)) (v_len rfl T.b_len (a_cons (vv 7) a_nil)))))) (b_one (s_ret v_bl)) b_nil)
  (b_cons (sSetLc (i := 8) (own := [("pile", 5)]) (by show 8 ∉ ([] : List Nat); decide) wx.calm sc.nd rfl rfl (sw_true rfl rfl rfl (by decide +kernel)) rfl (by show ∀ v ∈ ([5] : List Nat), v ∉ ([] : List Nat); decide) (by decide) (i_seq (v_frz 3 (vv 3))) (blkOk_by (by show blkC ["script", "store", "great", "piles", "one", "pile", "name", "rule", "handed", "which", "starts"] (defScope (top 84)) _ _ = true; decide +kernel)) (fun _ _ _ _ _ => ⟨_, (g_name (i := 5) (by show 5 ∉ ([] : List Nat); decide) sc.nd rfl (by first | exact Or.inl rfl | exact Or.inr rfl))⟩) (fun _ _ _ _ _ => ⟨_, ts_nil⟩) (fun _ _ _ _ _ => ⟨_, (v_list rfl T.b_list bt_list (a_cons (vv 5) a_nil))⟩))
  (b_cons (s_for wx.po wx.calm (i_seq (v_lst (a_cons v_int (a_cons v_int (a_cons v_int (a_cons v_int a_nil)))))) (g_name (i := 9) (by show 9 ∉ ([] : List Nat); decide) sc.nd rfl (by first | exact Or.inl rfl | exact Or.inr rfl)) (b_one (s_if (t_not (t_val (v_callO wx o_law_told (hr.mono (by decide)) rfl (a_cons (v_callO wx o_law_ask (hr.mono (by decide)) rfl (a_cons (vv 9) (a_cons (v_frz 8 (vv 8)) (a_cons (v_tup a_nil) a_nil)))) (a_cons v_int (a_cons (v_ix (v_lst (a_cons (v_len rfl T.b_len (a_cons (vv 7) a_nil)) (a_cons (v_tuple rfl T.b_tuple bt_tuple (a_cons (vv 7) a_nil)) a_nil))) (vv 9)) a_nil)))))) (b_one (s_ret v_bl)) b_nil)))
  (b_cons (s_for wx.po wx.calm (i_seq (v_callO wx o_law_rows_of_starts (hr.mono (by decide)) rfl (a_cons (vv 1) (a_cons (v_frz 7 (vv 7)) (a_cons (v_len rfl T.b_len (a_cons (vv 3) a_nil)) a_nil))))) (g_name (i := 10) (by show 10 ∉ ([] : List Nat); decide) sc.nd rfl (by first | exact Or.inl rfl | exact Or.inr rfl)) (b_one (s_if (t_not (t_val (v_callO wx o_law_judged (hr.mono (by decide)) rfl (a_cons (v_frz 8 (vv 8)) (a_cons (v_frz 3 (vv 3)) (a_cons (vv 10) a_nil)))))) (b_one (s_ret v_bl)) b_nil)))
  (b_one (s_ret (v_and (v_callO wx o_law_trouble (hr.mono (by decide)) rfl (a_cons (vv 1) (a_cons (v_frz 3 (vv 3)) (a_cons (v_frz 7 (vv 7)) a_nil)))) (v_one (v_eq hr.units (vv 8) (vv 3))))))))))))))), ?_⟩)
  · obtain ⟨ns, rfl, _⟩ := h; rfl
  · obtain ⟨ns, rfl, hn, hq⟩ := hc
    dsimp!
    rw [seq_eq]
    dsimp!
    refine ⟨ns, rfl, hn, fun st s0 => ?_⟩
    dsimp!
    rw [seq_eq]
    dsimp!
    refine ⟨0, st, 16, rfl, s0, by omega, by decide, fun g st1 g0 g1 s1 => ?_⟩
    dsimp!
    generalize hg : decide (g = 15) = great
    refine r_cut (fun e => ∃ (pss : Piles) (o3 : OD) (st2 : List OD) (x4 x5 x6 : Option OD), e = [some (.st (.scr ns)), some (.lst st2), some (.st (.bl great)), some o3, x4, x5, x6, none, none, none, none] ∧ frz o3 = pilesL pss ∧ chkPiles pss = none ∧ (great = false → pss.length ≤ 4 ∧ total pss ≤ 6) ∧ StoreOk 20000 st2) (fun R hR => ?_) fun e he => ?_
    · dsimp!
      cases great with
      | true =>
        dsimp!
        rw [seq_eq]
        dsimp!
        refine ⟨1, st1, 33, rfl, s1, by omega, by decide, fun m st2 m0 m1 s2 => ?_⟩
        dsimp!
        obtain ⟨k, rfl⟩ := Int.eq_ofNat_of_zero_le m0
        refine ⟨2, st2, 8 + k, 300, 40, by simp, s2, by omega, by omega, by omega, by omega, by omega, by omega, fun pss starts st3 l1 l2 l3 l4 l5 l6 s3 => ?_⟩
        dsimp!
        refine ⟨_, st3, 2, rfl, s3, by omega, by decide, fun c st4 c0 c1 s4 => ?_⟩
        dsimp!
        by_cases q : c = 1
        · rw [decide_eq_true q]
          dsimp!
          rw [seq_eq]
          dsimp! [gLenE (show (pilesL pss).itm = some (false, pss.map lstI) from rfl), List.length_map]
          refine ⟨_, st4, _, rfl, s4, by omega, natAbs_mono (a := 20) (natAbs_lt (by omega) (by omega)) (by decide), fun x st5 x0 x1 s5 => ?_⟩
          dsimp!
          have hx : InN pss x := ⟨x0, by omega⟩
          refine r_lc (e1 := [some (.st (.scr ns)), some (.lst st5), some (.st (.bl true)), some (.st (pilesL pss)), some (.st (.int x)), none, none, none, none, none, none]) (fun m acc e => e = [some (.st (.scr ns)), some (.lst st5), some (.st (.bl true)), some (.st (pilesL pss)), some (.st (.int x)), none, none, none, none, none, none] ∧ acc = (onesP (pss.take m) x).map lstI) pss.length (fun i => (pss.map lstI).getD i .non) (fun Q q => by
            simp! [show (pilesL pss).items = some (pss.map lstI) from rfl, List.length_map]
            exact q) ⟨rfl, rfl⟩ (fun m acc e hm ⟨he, ha⟩ => ?_) fun acc e ⟨he, ha⟩ => ?_
          · subst he ha
            obtain ⟨p, hp⟩ := get_lt hm
            rw [getD_lstI hp]
            dsimp!
            refine r_lc (e1 := [some (.st (.scr ns)), some (.lst st5), some (.st (.bl true)), some (.st (pilesL pss)), some (.st (.int x)), some (.st (lstI p)), none, none, none, none, none]) (fun j acc e => e = [some (.st (.scr ns)), some (.lst st5), some (.st (.bl true)), some (.st (pilesL pss)), some (.st (.int x)), some (.st (lstI p)), none, none, none, none, none] ∧ acc = (List.replicate j x).map .int) p.length (fun i => (p.map VL.D.int).getD i .non) (fun Q q => by
              simp! [show (lstI p).items = some (p.map VL.D.int) from rfl, List.length_map]
              exact q) ⟨rfl, rfl⟩ (fun j acc e hj ⟨he, ha⟩ => ?_) fun acc e ⟨he, ha⟩ => ?_
            · subst he ha
              have := l4 p (List.mem_of_getElem? hp)
              simp!
              refine ⟨szLt (by rw [List.length_replicate]; omega), ?_⟩
              rw [List.map_replicate, ← List.replicate_succ', List.replicate_succ]
            · subst he ha
              simp!
              refine ⟨szLt (by unfold onesP; rw [List.length_map, List.length_take]; omega), ?_⟩
              rw [take_snoc hp]
              unfold onesP
              rw [List.map_append, List.map_append]; rfl
          · subst he ha
            rw [List.take_length]
            dsimp!
            refine hR _ ⟨onesP pss x, _, st5, _, _, _, rfl, congrArg VL.D.lst (frzL_st _), onesP_ok (by omega) (by omega) l3 l4 hx, fun h => (by cases h), s5.mono (by omega)⟩
        · rw [decide_eq_false q]
          exact hR _ ⟨pss, _, st4, _, _, _, rfl, rfl, chkPiles_ok (by omega) (by omega) l2 l3 l4, fun h => (by cases h), s4.mono (by omega)⟩
      | false =>
        dsimp!
        refine ⟨1, st1, 4, rfl, s1, by omega, by decide, fun m st2 m0 m1 s2 => ?_⟩
        dsimp!
        obtain ⟨k, rfl⟩ := Int.eq_ofNat_of_zero_le m0
        refine ⟨2, st2, 1 + k, 6, 6, by simp, s2, by omega, by omega, by omega, by omega, by omega, by omega, fun pss starts st3 l1 l2 l3 l4 l5 l6 s3 => ?_⟩
        dsimp!
        exact hR _ ⟨pss, _, st3, _, _, _, rfl, rfl, chkPiles_ok (by omega) (by omega) l2 (by omega) l4, fun _ => ⟨by omega, l3⟩, s3.mono (by omega)⟩
    · obtain ⟨pss, o3, st2, x4, x5, x6, rfl, h3, hck, hsm, s2⟩ := he
      obtain ⟨p1, p2, p3, p4⟩ := chkPiles_names hck
      rw [seq_eq]
      dsimp! [h3]
      refine ⟨pss, _, rfl, pilesL_ok pss, p4, by omega, by omega, fun rl hrl => ?_⟩
      have hsh := hrl.short p4
      dsimp!
      rw [seq_eq]
      dsimp!
      refine ⟨pss, rl, _, _, false, rfl, pilesL_ok pss, rfl, p4, by omega, by omega, by omega, hrl.inn, ?_⟩
      rw [decide_eq_true (hrl.takes p4)]
      dsimp!
      rw [show VL.D.lst (List.map VL.D.int rl) = lstI rl from rfl]
      refine r_cut (fun e => e = [some (.st (.scr ns)), some (.lst st2), some (.st (.bl great)), some (.st (pilesL pss)), x4, x5, x6, some (.st (lstI rl)), none, none, none]) (fun R hR => ?_) fun e he => ?_
      · dsimp!
        cases great with
        | true =>
          dsimp!
          exact hR _ rfl
        | false =>
          obtain ⟨q1, q2⟩ := hsm rfl
          dsimp! [itm_lstI]
          refine ⟨pss, _, rl, rfl, pilesL_ok pss, p4, q1, q2, hrl, ?_⟩
          dsimp! [gLenE (itm_lstI rl), List.length_map]
          simp only [decide_true, Bool.not_true]
          exact hR _ rfl
      · subst he
        rw [seq_eq]
        dsimp!
        refine r_lc (e1 := [some (.st (.scr ns)), some (.lst st2), some (.st (.bl great)), some (.st (pilesL pss)), x4, x5, x6, some (.st (lstI rl)), none, none, none]) (fun m acc e => e = [some (.st (.scr ns)), some (.lst st2), some (.st (.bl great)), some (.st (pilesL pss)), x4, none, x6, some (.st (lstI rl)), none, none, none] ∧ acc = (pss.take m).map lstI) pss.length (fun i => (pss.map lstI).getD i .non) (fun Q q => by
          simp! [show (pilesL pss).items = some (pss.map lstI) from rfl, List.length_map]
          exact q) ⟨rfl, rfl⟩ (fun m acc e hm ⟨he, ha⟩ => ?_) fun acc e ⟨he, ha⟩ => ?_
        · subst he ha
          obtain ⟨q, hq'⟩ := get_lt hm
          rw [getD_lstI hq']
          simp! [itm_lstI]
          refine ⟨szLt (by rw [List.length_take]; omega), ?_⟩
          rw [take_snoc hq', List.map_append]; rfl
        · subst he ha
          rw [List.take_length]
          dsimp!
          refine r_cut (fun e => ∃ o8 x9, e = [some (.st (.scr ns)), some (.lst st2), some (.st (.bl great)), some (.st (pilesL pss)), x4, none, x6, some (.st (lstI rl)), some o8, x9, none] ∧ frz o8 = pilesL pss) (fun R hR => ?_) fun e he => ?_
          · refine r_for (e1 := [some (.st (.scr ns)), some (.lst st2), some (.st (.bl great)), some (.st (pilesL pss)), x4, none, x6, some (.st (lstI rl)), some (.lst ((pss.map lstI).map .st)), none, none]) (fun m e => ∃ o8 x9, e = [some (.st (.scr ns)), some (.lst st2), some (.st (.bl great)), some (.st (pilesL pss)), x4, none, x6, some (.st (lstI rl)), some o8, x9, none] ∧ frz o8 = pilesL pss) 4 (fun i => ([VL.D.int 1, VL.D.int 0, VL.D.int 1, VL.D.int 0] : List VL.D).getD i .non) (fun Q q => by
                simp!
                exact ⟨szOk (by decide), q⟩) ⟨_, _, rfl, congrArg VL.D.lst (frzL_st _)⟩ (fun m e hm ⟨o8, x9, he, h8⟩ => ?_) fun e ⟨o8, x9, he, h8⟩ => ?_
            · subst he
              have hw : ∃ w : Int, ([VL.D.int 1, VL.D.int 0, VL.D.int 1, VL.D.int 0] : List VL.D).getD m .non = .int w ∧ (w = 0 ∨ w = 1) := by
                have : m = 0 ∨ m = 1 ∨ m = 2 ∨ m = 3 := by omega
                rcases this with rfl | rfl | rfl | rfl
                · exact ⟨1, rfl, .inr rfl⟩
                · exact ⟨0, rfl, .inl rfl⟩
                · exact ⟨1, rfl, .inr rfl⟩
                · exact ⟨0, rfl, .inl rfl⟩
              obtain ⟨w', hw1, hw2⟩ := hw
              rw [hw1]
              dsimp! [h8]
              refine ⟨szOk (by decide), w', pss, [], _, _, true, rfl, pilesL_ok pss, rfl, hw2.elim .inl fun h => .inr (.inl h), fun ans ha => ?_⟩
              dsimp! [gLenE (itm_lstI rl), itm_lstI, List.length_map]
              have hcd : chkDeal pss [] = none := by rw [chkDeal_good hck, chkRow_none (by simp) (fun y h => by cases h)]
              rcases hw2 with rfl | rfl
              · have h1 := ha.1 rfl
                rw [hcd] at h1
                obtain ⟨d, rfl, rfl⟩ := h1
                rw [hrl.fewest p4]
                dsimp!
                refine ⟨szOk (by decide), 1, _, rfl, SameOk.leaf (.int _), ?_⟩
                dsimp!
                exact ⟨_, _, rfl, rfl⟩
              · have h1 := ha.2.1 rfl
                rw [hcd] at h1
                obtain ⟨d, rfl, out, o1, o2, rfl⟩ := h1
                rw [hrl.best p4 o1 o2]
                dsimp!
                refine ⟨szOk (by decide), 1, _, rfl, SameOk.ints rl (by omega), ?_⟩
                dsimp!
                exact ⟨_, _, rfl, rfl⟩
            · subst he
              exact hR _ ⟨_, _, rfl, h8⟩
          · obtain ⟨o8, x9, rfl, h8⟩ := he
            refine r_cut (fun e => ∃ o8 st3 x10, e = [some (.st (.scr ns)), some (.lst st3), some (.st (.bl great)), some (.st (pilesL pss)), x4, none, x6, some (.st (lstI rl)), some o8, x9, x10] ∧ frz o8 = pilesL pss ∧ StoreOk 30000 st3) (fun R hR => ?_) fun e he => ?_
            · refine ⟨20000, st2, pss.length, rl, _, rfl, by rw [List.length_map], s2, by omega, p1, by omega, by omega, hrl.inn, fun o rows st3 ho hgood s3 => ?_⟩
              have hit : (frz (OD.lst o)).items = some (rows.map lstI) := congrArg some ho
              simp only [giveL, List.set_cons_succ, List.set_cons_zero, asT_eq, hit]
              refine ⟨fun m e => ∃ o8 x10, e = [some (.st (.scr ns)), some (.lst st3), some (.st (.bl great)), some (.st (pilesL pss)), x4, none, x6, some (.st (lstI rl)), some o8, x9, x10] ∧ frz o8 = pilesL pss, ⟨o8, none, rfl, h8⟩, fun m e hm ⟨o8, x10, he, h8⟩ => ?_, fun e ⟨o8, x10, he, h8⟩ => ?_⟩
              · subst he
                rw [List.length_map] at hm
                obtain ⟨r, hr'⟩ := get_lt hm
                obtain ⟨r1, r2⟩ := hgood r (List.mem_of_getElem? hr')
                rw [getD_lstI hr']
                dsimp! [h8]
                refine ⟨pss, r, _, _, _, false, rfl, pilesL_ok pss, pilesL_ok pss, itm_lstI r, hck, r1, r2, ?_⟩
                dsimp!
                exact ⟨_, _, rfl, rfl⟩
              · subst he
                exact hR _ ⟨_, _, _, rfl, h8, s3.mono (by omega)⟩
            · obtain ⟨o8, st3, x10, rfl, h8, s3⟩ := he
              dsimp!
              refine ⟨30000, st3, pss, rl, rfl, s3, by omega, hck, hrl.inn, by omega, fun st4 => ?_⟩
              dsimp!
              have heq : gEqA (pilesL pss) (pilesL pss) fun d => Q1 (OD.st d) [OD.st (D.scr ns)] :=
                gEqA_refl (PyLN.lst (PyLN.map lstI (fun ns => .list (ns.map .int)) pss fun ns _ => (PyLN.ints 0 ns).lst)) (by decide) (.inr ⟨_, rfl⟩) hq
              cases o8 with
              | st d =>
                have h8' : d = pilesL pss := h8
                subst h8'
                exact heq
              | lst l =>
                rw [← h8] at heq
                rw [← h8]
                exact heq
              | ins C gs =>
                rw [← h8] at heq
                rw [← h8]
                exact heq
end
end K80
-- TE
set_option maxHeartbeats 0
namespace K80
open PySem PySem.Spec PyProof.Rows L2 VL
theorem tx {P : Program} {w : World} {W : Params} {h : Heap} {mg : Str → Option Value} (X : (KL W).In h) (G : h.Ns mainGlobals mg) (base : Heap) : Tx P w (KL W) mg base where
  b_len := He.free_ok X G (List.all_eq_true.mp (fo0 W) _ (List.mem_of_getElem? (i := 0) rfl))
  b_range := He.free_ok X G (List.all_eq_true.mp (fo0 W) _ (List.mem_of_getElem? (i := 1) rfl))
  b_sum := He.free_ok X G (List.all_eq_true.mp (fo0 W) _ (List.mem_of_getElem? (i := 2) rfl))
  b_list := He.free_ok X G (List.all_eq_true.mp (fo0 W) _ (List.mem_of_getElem? (i := 3) rfl))
  b_tuple := He.free_ok X G (List.all_eq_true.mp (fo0 W) _ (List.mem_of_getElem? (i := 4) rfl))
  b_sorted := He.free_ok X G (List.all_eq_true.mp (fo0 W) _ (List.mem_of_getElem? (i := 5) rfl))
  b_min := He.free_ok X G (List.all_eq_true.mp (fo0 W) _ (List.mem_of_getElem? (i := 6) rfl))
  b_max := He.free_ok X G (List.all_eq_true.mp (fo0 W) _ (List.mem_of_getElem? (i := 7) rfl))
  b_abs := He.free_ok X G (List.all_eq_true.mp (fo0 W) _ (List.mem_of_getElem? (i := 8) rfl))
  b_int := He.free_ok X G (List.all_eq_true.mp (fo0 W) _ (List.mem_of_getElem? (i := 9) rfl))
  b_isinstance := He.free_ok X G (List.all_eq_true.mp (fo0 W) _ (List.mem_of_getElem? (i := 10) rfl))
  b_enumerate := He.free_ok X G (List.all_eq_true.mp (fo0 W) _ (List.mem_of_getElem? (i := 11) rfl))
  b_zip := He.free_ok X G (List.all_eq_true.mp (fo0 W) _ (List.mem_of_getElem? (i := 12) rfl))
  b_str := He.free_ok X G (List.all_eq_true.mp (fo0 W) _ (List.mem_of_getElem? (i := 13) rfl))
  b_bool := He.free_ok X G (List.all_eq_true.mp (fo0 W) _ (List.mem_of_getElem? (i := 14) rfl))
  b_ValueError := He.free_ok X G (List.all_eq_true.mp (fo0 W) _ (List.mem_of_getElem? (i := 15) rfl))
  g_MOST_STATIONS := He.int_ok X G (List.all_eq_true.mp (fo0 W) _ (List.mem_of_getElem? (i := 16) rfl))
  m_Refused := He.glo_ok X G (List.all_eq_true.mp (fo0 W) _ (List.mem_of_getElem? (i := 17) rfl))
  m_BadText := He.glo_ok X G (List.all_eq_true.mp (fo0 W) _ (List.mem_of_getElem? (i := 18) rfl))
  m_Malformed := He.glo_ok X G (List.all_eq_true.mp (fo0 W) _ (List.mem_of_getElem? (i := 19) rfl))
  m_BadStation := He.glo_ok X G (List.all_eq_true.mp (fo1 W) _ (List.mem_of_getElem? (i := 0) rfl))
  m_BadPlace := He.glo_ok X G (List.all_eq_true.mp (fo1 W) _ (List.mem_of_getElem? (i := 1) rfl))
  m_BadNumber := He.glo_ok X G (List.all_eq_true.mp (fo1 W) _ (List.mem_of_getElem? (i := 2) rfl))
  m_TooMany := He.glo_ok X G (List.all_eq_true.mp (fo1 W) _ (List.mem_of_getElem? (i := 3) rfl))
  m_Empty := He.glo_ok X G (List.all_eq_true.mp (fo1 W) _ (List.mem_of_getElem? (i := 4) rfl))
  m_Unframed := He.glo_ok X G (List.all_eq_true.mp (fo1 W) _ (List.mem_of_getElem? (i := 5) rfl))
  m_NotPack := He.glo_ok X G (List.all_eq_true.mp (fo1 W) _ (List.mem_of_getElem? (i := 6) rfl))
  m_Unlike := He.glo_ok X G (List.all_eq_true.mp (fo1 W) _ (List.mem_of_getElem? (i := 7) rfl))
  m_Stuck := He.glo_ok X G (List.all_eq_true.mp (fo1 W) _ (List.mem_of_getElem? (i := 8) rfl))
  m_NothingBack := He.glo_ok X G (List.all_eq_true.mp (fo1 W) _ (List.mem_of_getElem? (i := 9) rfl))
  m_LeftOver := He.glo_ok X G (List.all_eq_true.mp (fo1 W) _ (List.mem_of_getElem? (i := 10) rfl))
  m_NotTrail := He.glo_ok X G (List.all_eq_true.mp (fo1 W) _ (List.mem_of_getElem? (i := 11) rfl))
  m_Blocked := He.glo_ok X G (List.all_eq_true.mp (fo1 W) _ (List.mem_of_getElem? (i := 12) rfl))
  m_Unnamed := He.glo_ok X G (List.all_eq_true.mp (fo1 W) _ (List.mem_of_getElem? (i := 13) rfl))
  m_Opened := He.glo_ok X G (List.all_eq_true.mp (fo1 W) _ (List.mem_of_getElem? (i := 14) rfl))
  m_Missing := He.glo_ok X G (List.all_eq_true.mp (fo1 W) _ (List.mem_of_getElem? (i := 15) rfl))
  m_NotLocal := He.glo_ok X G (List.all_eq_true.mp (fo1 W) _ (List.mem_of_getElem? (i := 16) rfl))
  m_NoPlan := He.glo_ok X G (List.all_eq_true.mp (fo1 W) _ (List.mem_of_getElem? (i := 17) rfl))
  m_Doubled := He.glo_ok X G (List.all_eq_true.mp (fo1 W) _ (List.mem_of_getElem? (i := 18) rfl))
  m_BadCard := He.glo_ok X G (List.all_eq_true.mp (fo1 W) _ (List.mem_of_getElem? (i := 19) rfl))
  m_Unknown := He.glo_ok X G (List.all_eq_true.mp (fo2 W) _ (List.mem_of_getElem? (i := 0) rfl))
  m_NotEnd := He.glo_ok X G (List.all_eq_true.mp (fo2 W) _ (List.mem_of_getElem? (i := 1) rfl))
  m_Deal := He.glo_ok X G (List.all_eq_true.mp (fo2 W) _ (List.mem_of_getElem? (i := 2) rfl))
  d_check_arrows := ⟨He.DefD.funD (d := dd_check_arrows) (dv_check_arrows W) (dk_check_arrows W), He.glo_ok X G (List.all_eq_true.mp (fo2 W) _ (List.mem_of_getElem? (i := 3) rfl))⟩
  d_check_index := ⟨He.DefD.funD (d := dd_check_index) (dv_check_index W) (dk_check_index W), He.glo_ok X G (List.all_eq_true.mp (fo2 W) _ (List.mem_of_getElem? (i := 4) rfl))⟩
  d_from_least := ⟨He.DefD.funD (d := dd_from_least) (dv_from_least W) (dk_from_least W), He.glo_ok X G (List.all_eq_true.mp (fo2 W) _ (List.mem_of_getElem? (i := 5) rfl))⟩
  d_rings_of := ⟨He.DefD.funD (d := dd_rings_of) (dv_rings_of W) (dk_rings_of W), He.glo_ok X G (List.all_eq_true.mp (fo2 W) _ (List.mem_of_getElem? (i := 6) rfl))⟩
  d_check_station := ⟨He.DefD.funD (d := dd_check_station) (dv_check_station W) (dk_check_station W), He.glo_ok X G (List.all_eq_true.mp (fo2 W) _ (List.mem_of_getElem? (i := 7) rfl))⟩
  d_check_count := ⟨He.DefD.funD (d := dd_check_count) (dv_check_count W) (dk_check_count W), He.glo_ok X G (List.all_eq_true.mp (fo2 W) _ (List.mem_of_getElem? (i := 8) rfl))⟩
  d_check_pile := ⟨He.DefD.funD (d := dd_check_pile) (dv_check_pile W) (dk_check_pile W), He.glo_ok X G (List.all_eq_true.mp (fo2 W) _ (List.mem_of_getElem? (i := 9) rfl))⟩
  d_check_total := ⟨He.DefD.funD (d := dd_check_total) (dv_check_total W) (dk_check_total W), He.glo_ok X G (List.all_eq_true.mp (fo2 W) _ (List.mem_of_getElem? (i := 10) rfl))⟩
  d_check_piles := ⟨He.DefD.funD (d := dd_check_piles) (dv_check_piles W) (dk_check_piles W), He.glo_ok X G (List.all_eq_true.mp (fo2 W) _ (List.mem_of_getElem? (i := 11) rfl))⟩
  d_check_starts := ⟨He.DefD.funD (d := dd_check_starts) (dv_check_starts W) (dk_check_starts W), He.glo_ok X G (List.all_eq_true.mp (fo2 W) _ (List.mem_of_getElem? (i := 12) rfl))⟩
  d_tally_of := ⟨He.DefD.funD (d := dd_tally_of) (dv_tally_of W) (dk_tally_of W), He.glo_ok X G (List.all_eq_true.mp (fo2 W) _ (List.mem_of_getElem? (i := 13) rfl))⟩
  d_make_deal := ⟨He.DefD.funD (d := dd_make_deal) (dv_make_deal W) (dk_make_deal W), He.glo_ok X G (List.all_eq_true.mp (fo2 W) _ (List.mem_of_getElem? (i := 14) rfl))⟩
  d_sizes_of := ⟨He.DefD.funD (d := dd_sizes_of) (dv_sizes_of W) (dk_sizes_of W), He.glo_ok X G (List.all_eq_true.mp (fo2 W) _ (List.mem_of_getElem? (i := 15) rfl))⟩
  d_pack_of := ⟨He.DefD.funD (d := dd_pack_of) (dv_pack_of W) (dk_pack_of W), He.glo_ok X G (List.all_eq_true.mp (fo2 W) _ (List.mem_of_getElem? (i := 16) rfl))⟩
  d_bottoms := ⟨He.DefD.funD (d := dd_bottoms) (dv_bottoms W) (dk_bottoms W), He.glo_ok X G (List.all_eq_true.mp (fo2 W) _ (List.mem_of_getElem? (i := 17) rfl))⟩
  d_last_slips := ⟨He.DefD.funD (d := dd_last_slips) (dv_last_slips W) (dk_last_slips W), He.glo_ok X G (List.all_eq_true.mp (fo2 W) _ (List.mem_of_getElem? (i := 18) rfl))⟩
  d_take_step := ⟨He.DefD.funD (d := dd_take_step) (dv_take_step W) (dk_take_step W), He.glo_ok X G (List.all_eq_true.mp (fo2 W) _ (List.mem_of_getElem? (i := 19) rfl))⟩
  d_run := ⟨He.DefD.funD (d := dd_run) (dv_run W) (dk_run W), He.glo_ok X G (List.all_eq_true.mp (fo3 W) _ (List.mem_of_getElem? (i := 0) rfl))⟩
  d_comes_out := ⟨He.DefD.funD (d := dd_comes_out) (dv_comes_out W) (dk_comes_out W), He.glo_ok X G (List.all_eq_true.mp (fo3 W) _ (List.mem_of_getElem? (i := 1) rfl))⟩
  d_lacks := ⟨He.DefD.funD (d := dd_lacks) (dv_lacks W) (dk_lacks W), He.glo_ok X G (List.all_eq_true.mp (fo3 W) _ (List.mem_of_getElem? (i := 2) rfl))⟩
  d_lacking_rings := ⟨He.DefD.funD (d := dd_lacking_rings) (dv_lacking_rings W) (dk_lacking_rings W), He.glo_ok X G (List.all_eq_true.mp (fo3 W) _ (List.mem_of_getElem? (i := 3) rfl))⟩
  d_fewest_starts := ⟨He.DefD.funD (d := dd_fewest_starts) (dv_fewest_starts W) (dk_fewest_starts W), He.glo_ok X G (List.all_eq_true.mp (fo3 W) _ (List.mem_of_getElem? (i := 4) rfl))⟩
  d_best_starts := ⟨He.DefD.funD (d := dd_best_starts) (dv_best_starts W) (dk_best_starts W), He.glo_ok X G (List.all_eq_true.mp (fo3 W) _ (List.mem_of_getElem? (i := 5) rfl))⟩
  d_judge_starts := ⟨He.DefD.funD (d := dd_judge_starts) (dv_judge_starts W) (dk_judge_starts W), He.glo_ok X G (List.all_eq_true.mp (fo3 W) _ (List.mem_of_getElem? (i := 6) rfl))⟩
  d_law_mix := ⟨He.DefD.funD (d := dd_law_mix) (dv_law_mix W) (dk_law_mix W), He.glo_ok X G (List.all_eq_true.mp (fo3 W) _ (List.mem_of_getElem? (i := 7) rfl))⟩
  d_law_store := ⟨He.DefD.funD (d := dd_law_store) (dv_law_store W) (dk_law_store W), He.glo_ok X G (List.all_eq_true.mp (fo3 W) _ (List.mem_of_getElem? (i := 8) rfl))⟩
  d_law_take := ⟨He.DefD.funD (d := dd_law_take) (dv_law_take W) (dk_law_take W), He.glo_ok X G (List.all_eq_true.mp (fo3 W) _ (List.mem_of_getElem? (i := 9) rfl))⟩
  d_law_shuffled := ⟨He.DefD.funD (d := dd_law_shuffled) (dv_law_shuffled W) (dk_law_shuffled W), He.glo_ok X G (List.all_eq_true.mp (fo3 W) _ (List.mem_of_getElem? (i := 10) rfl))⟩
  d_law_end_counts := ⟨He.DefD.funD (d := dd_law_end_counts) (dv_law_end_counts W) (dk_law_end_counts W), He.glo_ok X G (List.all_eq_true.mp (fo3 W) _ (List.mem_of_getElem? (i := 11) rfl))⟩
  d_law_other_row := ⟨He.DefD.funD (d := dd_law_other_row) (dv_law_other_row W) (dk_law_other_row W), He.glo_ok X G (List.all_eq_true.mp (fo3 W) _ (List.mem_of_getElem? (i := 12) rfl))⟩
  d_law_same := ⟨He.DefD.funD (d := dd_law_same) (dv_law_same W) (dk_law_same W), He.glo_ok X G (List.all_eq_true.mp (fo3 W) _ (List.mem_of_getElem? (i := 13) rfl))⟩
  d_law_same_leaf := ⟨He.DefD.funD (d := dd_law_same_leaf) (dv_law_same_leaf W) (dk_law_same_leaf W), He.glo_ok X G (List.all_eq_true.mp (fo3 W) _ (List.mem_of_getElem? (i := 14) rfl))⟩
  d_law_pack_of := ⟨He.DefD.funD (d := dd_law_pack_of) (dv_law_pack_of W) (dk_law_pack_of W), He.glo_ok X G (List.all_eq_true.mp (fo3 W) _ (List.mem_of_getElem? (i := 15) rfl))⟩
  d_law_run := ⟨He.DefD.funD (d := dd_law_run) (dv_law_run W) (dk_law_run W), He.glo_ok X G (List.all_eq_true.mp (fo3 W) _ (List.mem_of_getElem? (i := 16) rfl))⟩
  d_law_aim_row := ⟨He.DefD.funD (d := dd_law_aim_row) (dv_law_aim_row W) (dk_law_aim_row W), He.glo_ok X G (List.all_eq_true.mp (fo3 W) _ (List.mem_of_getElem? (i := 17) rfl))⟩
  d_law_ring_rows := ⟨He.DefD.funD (d := dd_law_ring_rows) (dv_law_ring_rows W) (dk_law_ring_rows W), He.glo_ok X G (List.all_eq_true.mp (fo3 W) _ (List.mem_of_getElem? (i := 18) rfl))⟩
  d_law_seats := ⟨He.DefD.funD (d := dd_law_seats) (dv_law_seats W) (dk_law_seats W), He.glo_ok X G (List.all_eq_true.mp (fo3 W) _ (List.mem_of_getElem? (i := 19) rfl))⟩
  d_law_class_of := ⟨He.DefD.funD (d := dd_law_class_of) (dv_law_class_of W) (dk_law_class_of W), He.glo_ok X G (List.all_eq_true.mp (fo4 W) _ (List.mem_of_getElem? (i := 0) rfl))⟩
  d_law_refusal_of := ⟨He.DefD.funD (d := dd_law_refusal_of) (dv_law_refusal_of W) (dk_law_refusal_of W), He.glo_ok X G (List.all_eq_true.mp (fo4 W) _ (List.mem_of_getElem? (i := 1) rfl))⟩
  d_law_ask := ⟨He.DefD.funD (d := dd_law_ask) (dv_law_ask W) (dk_law_ask W), He.glo_ok X G (List.all_eq_true.mp (fo4 W) _ (List.mem_of_getElem? (i := 2) rfl))⟩
  d_law_told := ⟨He.DefD.funD (d := dd_law_told) (dv_law_told W) (dk_law_told W), He.glo_ok X G (List.all_eq_true.mp (fo4 W) _ (List.mem_of_getElem? (i := 3) rfl))⟩
  d_law_takes_all := ⟨He.DefD.funD (d := dd_law_takes_all) (dv_law_takes_all W) (dk_law_takes_all W), He.glo_ok X G (List.all_eq_true.mp (fo4 W) _ (List.mem_of_getElem? (i := 4) rfl))⟩
  d_law_least := ⟨He.DefD.funD (d := dd_law_least) (dv_law_least W) (dk_law_least W), He.glo_ok X G (List.all_eq_true.mp (fo4 W) _ (List.mem_of_getElem? (i := 5) rfl))⟩
  d_law_rule := ⟨He.DefD.funD (d := dd_law_rule) (dv_law_rule W) (dk_law_rule W), He.glo_ok X G (List.all_eq_true.mp (fo4 W) _ (List.mem_of_getElem? (i := 6) rfl))⟩
  d_law_judged := ⟨He.DefD.funD (d := dd_law_judged) (dv_law_judged W) (dk_law_judged W), He.glo_ok X G (List.all_eq_true.mp (fo4 W) _ (List.mem_of_getElem? (i := 7) rfl))⟩
  d_law_rows_of_starts := ⟨He.DefD.funD (d := dd_law_rows_of_starts) (dv_law_rows_of_starts W) (dk_law_rows_of_starts W), He.glo_ok X G (List.all_eq_true.mp (fo4 W) _ (List.mem_of_getElem? (i := 8) rfl))⟩
  d_law_odd := ⟨He.DefD.funD (d := dd_law_odd) (dv_law_odd W) (dk_law_odd W), He.glo_ok X G (List.all_eq_true.mp (fo4 W) _ (List.mem_of_getElem? (i := 9) rfl))⟩
  d_law_odd_piles := ⟨He.DefD.funD (d := dd_law_odd_piles) (dv_law_odd_piles W) (dk_law_odd_piles W), He.glo_ok X G (List.all_eq_true.mp (fo4 W) _ (List.mem_of_getElem? (i := 10) rfl))⟩
  d_law_trouble := ⟨He.DefD.funD (d := dd_law_trouble) (dv_law_trouble W) (dk_law_trouble W), He.glo_ok X G (List.all_eq_true.mp (fo4 W) _ (List.mem_of_getElem? (i := 11) rfl))⟩
  d_law := ⟨He.DefD.funD (d := dd_law) (dv_law W) (dk_law W), He.glo_ok X G (List.all_eq_true.mp (fo4 W) _ (List.mem_of_getElem? (i := 12) rfl))⟩
  c_Deal := He.cls_ok (List.all_eq_true.mp (fo4 W) _ (List.mem_of_getElem? (i := 13) rfl))
  na_Deal_piles := He.noat_ok (List.all_eq_true.mp (fo4 W) _ (List.mem_of_getElem? (i := 14) rfl))
  na_Deal_starts := He.noat_ok (List.all_eq_true.mp (fo4 W) _ (List.mem_of_getElem? (i := 15) rfl))
  cr_Deal := cr_Deal W
  mk_Deal := He.mkr_ok (List.all_eq_true.mp (fo4 W) _ (List.mem_of_getElem? (i := 16) rfl))
  di_Deal := He.DefD.funD (d := dd_Deal_init) (dv_Deal_init W) (dk_Deal_init W)
  cv_Deal_STATIONS := cvB_ok (cv_Deal_STATIONS W)
  cv_Deal_PILE := cvB_ok (cv_Deal_PILE W)
  cv_Deal_SLIPS := cvB_ok (cv_Deal_SLIPS W)
  cv_Deal_COURIERS := cvB_ok (cv_Deal_COURIERS W)
  t_make := tpB_ok (t_make W)
  x_BadStation := ⟨oexB_ok (oxb_BadStation W), noB_ok (nob_BadStation W), He.glo_ok X G (List.all_eq_true.mp (fo1 W) _ (List.mem_of_getElem? (i := 0) rfl)), by
    obtain ⟨fd, Fd⟩ := He.DefD.funD (d := dd_BadStation_init) (dv_BadStation_init W) (dk_BadStation_init W)
    exact ⟨_, fd, (inB_ok (inb_BadStation W)).1, (inB_ok (inb_BadStation W)).2, ok_init1 Fd (show FnScope ["self", "station"] ["self", "station"] (defScope ((cBody (top 5)).getD 0 (.Pass ⟨0, 0, 0, 0⟩))) from ⟨rfl, rfl, rfl, by decide +kernel, rfl, by decide +kernel, by decide +kernel⟩) (.inl rfl) (.inl rfl) rfl rfl rfl, Fd.bindsN fun _ _ _ _ _ _ us hl => match us, hl with | [_, _], _ => rfl⟩⟩
  x_BadPlace := ⟨oexB_ok (oxb_BadPlace W), noB_ok (nob_BadPlace W), He.glo_ok X G (List.all_eq_true.mp (fo1 W) _ (List.mem_of_getElem? (i := 1) rfl)), by
    obtain ⟨fd, Fd⟩ := He.DefD.funD (d := dd_BadPlace_init) (dv_BadPlace_init W) (dk_BadPlace_init W)
    exact ⟨_, fd, (inB_ok (inb_BadPlace W)).1, (inB_ok (inb_BadPlace W)).2, ok_init2 Fd (show FnScope ["self", "station", "at"] ["self", "station", "at"] (defScope ((cBody (top 6)).getD 0 (.Pass ⟨0, 0, 0, 0⟩))) from ⟨rfl, rfl, rfl, by decide +kernel, rfl, by decide +kernel, by decide +kernel⟩) (.inl rfl) (.inl rfl) (.inl rfl) rfl rfl rfl rfl rfl, Fd.bindsN fun _ _ _ _ _ _ us hl => match us, hl with | [_, _, _], _ => rfl⟩⟩
  x_BadNumber := ⟨oexB_ok (oxb_BadNumber W), noB_ok (nob_BadNumber W), He.glo_ok X G (List.all_eq_true.mp (fo1 W) _ (List.mem_of_getElem? (i := 2) rfl)), by
    obtain ⟨fd, Fd⟩ := He.DefD.funD (d := dd_BadNumber_init) (dv_BadNumber_init W) (dk_BadNumber_init W)
    exact ⟨_, fd, (inB_ok (inb_BadNumber W)).1, (inB_ok (inb_BadNumber W)).2, ok_init1 Fd (show FnScope ["self", "what"] ["self", "what"] (defScope ((cBody (top 7)).getD 0 (.Pass ⟨0, 0, 0, 0⟩))) from ⟨rfl, rfl, rfl, by decide +kernel, rfl, by decide +kernel, by decide +kernel⟩) (.inl rfl) (.inl rfl) rfl rfl rfl, Fd.bindsN fun _ _ _ _ _ _ us hl => match us, hl with | [_, _], _ => rfl⟩⟩
  x_TooMany := ⟨oexB_ok (oxb_TooMany W), noB_ok (nob_TooMany W), He.glo_ok X G (List.all_eq_true.mp (fo1 W) _ (List.mem_of_getElem? (i := 3) rfl)), by
    obtain ⟨fd, Fd⟩ := He.DefD.funD (d := dd_TooMany_init) (dv_TooMany_init W) (dk_TooMany_init W)
    exact ⟨_, fd, (inB_ok (inb_TooMany W)).1, (inB_ok (inb_TooMany W)).2, ok_init2 Fd (show FnScope ["self", "what", "limit"] ["self", "what", "limit"] (defScope ((cBody (top 8)).getD 0 (.Pass ⟨0, 0, 0, 0⟩))) from ⟨rfl, rfl, rfl, by decide +kernel, rfl, by decide +kernel, by decide +kernel⟩) (.inl rfl) (.inl rfl) (.inl rfl) rfl rfl rfl rfl rfl, Fd.bindsN fun _ _ _ _ _ _ us hl => match us, hl with | [_, _, _], _ => rfl⟩⟩
  x_Empty := ⟨oexB_ok (oxb_Empty W), noB_ok (nob_Empty W), He.glo_ok X G (List.all_eq_true.mp (fo1 W) _ (List.mem_of_getElem? (i := 4) rfl)), by
    obtain ⟨fd, Fd⟩ := He.DefD.funD (d := dd_Empty_init) (dv_Empty_init W) (dk_Empty_init W)
    exact ⟨_, fd, (inB_ok (inb_Empty W)).1, (inB_ok (inb_Empty W)).2, ok_init1 Fd (show FnScope ["self", "what"] ["self", "what"] (defScope ((cBody (top 9)).getD 0 (.Pass ⟨0, 0, 0, 0⟩))) from ⟨rfl, rfl, rfl, by decide +kernel, rfl, by decide +kernel, by decide +kernel⟩) (.inl rfl) (.inl rfl) rfl rfl rfl, Fd.bindsN fun _ _ _ _ _ _ us hl => match us, hl with | [_, _], _ => rfl⟩⟩
  x_Unframed := ⟨oexB_ok (oxb_Unframed W), noB_ok (nob_Unframed W), He.glo_ok X G (List.all_eq_true.mp (fo1 W) _ (List.mem_of_getElem? (i := 5) rfl)), by
    obtain ⟨fd, Fd⟩ := He.DefD.funD (d := dd_Unframed_init) (dv_Unframed_init W) (dk_Unframed_init W)
    exact ⟨_, fd, (inB_ok (inb_Unframed W)).1, (inB_ok (inb_Unframed W)).2, ok_init1 Fd (show FnScope ["self", "station"] ["self", "station"] (defScope ((cBody (top 10)).getD 0 (.Pass ⟨0, 0, 0, 0⟩))) from ⟨rfl, rfl, rfl, by decide +kernel, rfl, by decide +kernel, by decide +kernel⟩) (.inl rfl) (.inl rfl) rfl rfl rfl, Fd.bindsN fun _ _ _ _ _ _ us hl => match us, hl with | [_, _], _ => rfl⟩⟩
  x_NotPack := ⟨oexB_ok (oxb_NotPack W), noB_ok (nob_NotPack W), He.glo_ok X G (List.all_eq_true.mp (fo1 W) _ (List.mem_of_getElem? (i := 6) rfl)), by
    obtain ⟨fd, Fd⟩ := He.DefD.funD (d := dd_NotPack_init) (dv_NotPack_init W) (dk_NotPack_init W)
    exact ⟨_, fd, (inB_ok (inb_NotPack W)).1, (inB_ok (inb_NotPack W)).2, ok_init1 Fd (show FnScope ["self", "what"] ["self", "what"] (defScope ((cBody (top 11)).getD 0 (.Pass ⟨0, 0, 0, 0⟩))) from ⟨rfl, rfl, rfl, by decide +kernel, rfl, by decide +kernel, by decide +kernel⟩) (.inl rfl) (.inl rfl) rfl rfl rfl, Fd.bindsN fun _ _ _ _ _ _ us hl => match us, hl with | [_, _], _ => rfl⟩⟩
  e_all := fun x hx => by
    simp only [RAISED, List.mem_cons, List.not_mem_nil, or_false] at hx
    rcases hx with rfl | rfl | rfl | rfl | rfl | rfl | rfl
    all_goals first
      | exact (excB_ok (exb_BadStation W)).1
      | exact (excB_ok (exb_TooMany W)).1
      | exact (excB_ok (exb_Empty W)).1
      | exact (excB_ok (exb_BadNumber W)).1
      | exact (excB_ok (exb_BadPlace W)).1
      | exact (excB_ok (exb_Unframed W)).1
      | exact (excB_ok (exb_NotPack W)).1
  f_all := fun x hx => by
    simp only [RAISED, List.mem_cons, List.not_mem_nil, or_false] at hx
    rcases hx with rfl | rfl | rfl | rfl | rfl | rfl | rfl
    all_goals first
      | exact (excB_ok (exb_BadStation W)).2
      | exact (excB_ok (exb_TooMany W)).2
      | exact (excB_ok (exb_Empty W)).2
      | exact (excB_ok (exb_BadNumber W)).2
      | exact (excB_ok (exb_BadPlace W)).2
      | exact (excB_ok (exb_Unframed W)).2
      | exact (excB_ok (exb_NotPack W)).2
  r_exm := fun x hx => (veB_ok (ve2 W) x hx).2
  r_kit := kitB2_ok (kit2 W)
  r_ve := fun x hx => (veB_ok (ve2 W) x hx).1
end K80
open PySem PySem.W PySem.Calls PyProof.Rows
theorem PySem.Challenge.cw_lastslips_k80_fewest_starts_holds : PySem.Challenge.rw_lastslips_k80_fewest_starts.Holds := by
  w_on; o_law
  refine HandSHeadRun.head_any (r := OpenLaw.row PySem.Challenge.rw_lastslips_k80_fewest_starts) (q := view (OpenLaw.row PySem.Challenge.rw_lastslips_k80_fewest_starts).prog [84]) (H := K80.hk) (ob := K80.ob) (M := 60000) (loose := K80.loose) (d := HandSHeadRun.topDef (OpenLaw.row PySem.Challenge.rw_lastslips_k80_fewest_starts).prog 84) (kwd := []) K80.ob_eq
    (by kernel_rfl) (fun s => by kernel_rfl) K80.run (by kernel_rfl) (by kernel_rfl) (by kernel_rfl) (by rfl) (by first | assumption | decide +kernel) (by decide +kernel) ⟨rfl, rfl, rfl, rfl, rfl, by decide +kernel⟩ ?hw ?hc
  case hw => w_witness2
  case hc =>
    refine VL.law_end (l := PySem.Challenge.rw_lastslips_k80_fewest_starts) (n := 63) (k := 10) (st := K80.top 84) (C := K80.C_law) rfl (by decide) (by kernel_rfl) ⟨rfl, by decide, by decide⟩ (fun K ns Q hl hq => ⟨ns, rfl, hl, hq⟩) ?hB ?F
    case hB => exact fun kV doc pm an cdv ct us hl => match us, hl with | [_], _ => rfl
    intro w mg fa h Y G hmg0
    have hmg : mg ("law" : PySem.Str) = some (.ref fa) := hmg0
    have T := K80.tx (P := (PySem.Challenge.rw_lastslips_k80_fewest_starts).prog) (w := w) (W := w.params) Y G h
    have e := hmg.symm.trans T.d_law.2
    cases e
    exact ⟨K80.KL w.params, Y, rfl, T.d_law.1, fun base hb1 hb2 => K80.okf_law (K80.tx hb1 hb2 base)⟩
