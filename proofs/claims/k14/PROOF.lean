import PyProof.Rows.All
import Wide.All
import OpenK.AllK
import Wide.FinOn
import HandS.Base
import HandS.Call
import HandS.List
import HandS.Ends
import HandS.Words
import HandS.WordsList
import HandS.Exc
import HandS.ExcCtx
import HandS.HotCalls
import HandS.ExcInit
import HandS.ExcInitHot
import KE.KExcSuper
import HandS.ForMost
import HandS.Comp
import HandS.Wide
import HandS.StrMore
import HandS.Flow
import HandS.CallSlots
import HandS.Defaults
import HandS.IsInst
import HandS.ExcField
import HandS.RaiseMore
import KE.KExcIs
import HandS.HeadHook1
import HandS.HeadHook2
import HandS.HeadHook3
import HandS.Head0
import HandS.Head1
import HandS.Head2
import HandS.HeadEnd
import HandS.Property
import KE.KOpsOwn
import HandS.SlotsOwn
import HandS.Strs
import PyProof.Rows.RuleN_abs
import HandS.Text
import KE.IntTextLaws
import HandS.ClsMeth
import HandS.FStr
import HandS.More
import HandS.Iter
import PySem.Challenge.RW_forkwaits_k14_cells_of_a_reach
set_option Elab.async false
set_option linter.all false
set_option maxRecDepth 100000
set_option maxHeartbeats 4000000
/-! Z0: symbolic heaps (chunks), stops of readings -/
namespace Z
open PySem PySem.Spec PyProof.Rows L2
abbrev Chunk := List (Addr × HO) → Prop
/-- one object -/
def pt (a : Addr) (o : HO) : Chunk := fun l => l = [(a, o)]
inductive Split : List Chunk → List (Addr × HO) → Prop
  | nil : Split [] []
  | cons {c : Chunk} {cs : List Chunk} {l r : List (Addr × HO)} : c l → Split cs r → Split (c :: cs) (l ++ r)
theorem Split.app : ∀ {as bs : List Chunk} {l r : List (Addr × HO)}, Split as l → Split bs r → Split (as ++ bs) (l ++ r)
  | _, _, _, _, .nil, s => s
  | _, _, _, _, .cons h t, s => by
    rw [List.append_assoc]
    exact .cons h (Split.app t s)
theorem Split.cut : ∀ {as bs : List Chunk} {l : List (Addr × HO)}, Split (as ++ bs) l → ∃ l1 l2, l = l1 ++ l2 ∧ Split as l1 ∧ Split bs l2
  | [], _, l, s => ⟨[], l, rfl, .nil, s⟩
  | c :: as, bs, l, s => by
    cases s with
    | cons h t =>
      obtain ⟨l1, l2, e, s1, s2⟩ := Split.cut t
      refine ⟨_ ++ l1, l2, ?_, .cons h s1, s2⟩
      rw [e, List.append_assoc]
/-- the heap bears these chunks, apart from one another -/
structure Own (cs : List Chunk) (H : Hp) : Prop where
  out : ∃ l, Split cs l ∧ (l.map (·.1)).Nodup ∧ ∀ q ∈ l, H q.1 = some q.2
theorem Own.nil {H : Hp} : Own [] H := ⟨[], .nil, List.nodup_nil, fun _ h => nomatch h⟩
theorem Own.new {cs : List Chunk} {H : Hp} {p : Addr} {o : HO} (h : Own cs H) (n : H p = none) : Own (pt p o :: cs) (upd H p o) := by
  obtain ⟨l, s, d, g⟩ := h.out
  have ne : ∀ q ∈ l, q.1 ≠ p := fun q hq e => by
    have z := g q hq
    rw [e, n] at z
    cases z
  refine ⟨(p, o) :: l, .cons (l := [(p, o)]) rfl s, ?_, fun q hq => ?_⟩
  · rw [List.map_cons]
    refine List.nodup_cons.mpr ⟨fun hm => ?_, d⟩
    obtain ⟨q, hq, e⟩ := List.mem_map.mp hm
    exact ne q hq e
  · rcases List.mem_cons.mp hq with e | hq
    · subst e
      exact upd_same
    · rw [upd_ne (ne q hq)]
      exact g q hq
theorem Split.mem : ∀ {cs : List Chunk} {l : List (Addr × HO)} {a : Addr} {o : HO}, Split cs l → pt a o ∈ cs → (a, o) ∈ l
  | _, _, a, o, .cons (l := l1) h t, hm => by
    rcases List.mem_cons.mp hm with e | hm
    · rw [← e] at h
      have h' : l1 = [(a, o)] := h
      rw [h']
      exact List.mem_append_left _ List.mem_cons_self
    · exact List.mem_append_right _ (Split.mem t hm)
theorem Own.get {cs : List Chunk} {H : Hp} {a : Addr} {o : HO} (h : Own cs H) (m : pt a o ∈ cs) : H a = some o := by
  obtain ⟨l, s, _, g⟩ := h.out
  exact g _ (s.mem m)
/-- one object of the list is put in another's place -/
inductive Rep (a : Addr) (o o' : HO) : List Chunk → List Chunk → Prop
  | here {cs : List Chunk} : Rep a o o' (pt a o :: cs) (pt a o' :: cs)
  | there {c : Chunk} {cs ds : List Chunk} : Rep a o o' cs ds → Rep a o o' (c :: cs) (c :: ds)
theorem Rep.split {a : Addr} {o o' : HO} : ∀ {cs ds : List Chunk} {l : List (Addr × HO)}, Rep a o o' cs ds → Split cs l → ∃ l1 l2, l = l1 ++ (a, o) :: l2 ∧ Split ds (l1 ++ (a, o') :: l2)
  | _, _, _, .here, .cons (l := l1) (r := r) h t => by
    have h' : l1 = [(a, o)] := h
    subst h'
    exact ⟨[], r, rfl, .cons (l := [(a, o')]) rfl t⟩
  | _, _, _, .there m, .cons (l := l0) h t => by
    obtain ⟨l1, l2, e, s⟩ := Rep.split m t
    refine ⟨l0 ++ l1, l2, ?_, ?_⟩
    · rw [e, List.append_assoc]
    · rw [List.append_assoc]
      exact .cons h s
theorem Own.set {cs ds : List Chunk} {H : Hp} {a : Addr} {o o' : HO} (h : Own cs H) (m : Rep a o o' cs ds) : Own ds (upd H a o') := by
  obtain ⟨l, s, d, g⟩ := h.out
  obtain ⟨l1, l2, e, s'⟩ := m.split s
  subst e
  have d' : ((l1 ++ (a, o') :: l2).map (·.1)).Nodup := by
    simpa only [List.map_append, List.map_cons] using d
  refine ⟨_, s', d', fun q hq => ?_⟩
  rw [List.map_append, List.map_cons] at d'
  obtain ⟨_, d2, d3⟩ := List.nodup_append.mp d'
  rcases List.mem_append.mp hq with hq | hq
  · have ne : q.1 ≠ a := d3 _ (List.mem_map_of_mem hq) _ List.mem_cons_self
    rw [upd_ne ne]
    exact g q (List.mem_append_left _ hq)
  · rcases List.mem_cons.mp hq with e | hq
    · subst e
      exact upd_same
    · have ne : q.1 ≠ a := fun e => (List.nodup_cons.mp d2).1 (List.mem_map.mpr ⟨q, hq, e⟩)
      rw [upd_ne ne]
      exact g q (List.mem_append_right _ (List.mem_cons_of_mem _ hq))
/-- a chunk is brought to the front -/
inductive Pull : List Chunk → Chunk → List Chunk → Prop
  | here {c : Chunk} {cs : List Chunk} : Pull (c :: cs) c cs
  | there {c d : Chunk} {cs r : List Chunk} : Pull cs c r → Pull (d :: cs) c (d :: r)
theorem Pull.split : ∀ {cs r : List Chunk} {c : Chunk} {l : List (Addr × HO)}, Pull cs c r → Split cs l → ∃ l', Split (c :: r) l' ∧ l'.Perm l
  | _, _, _, l, .here, s => ⟨l, s, .refl _⟩
  | _, _, _, _, .there m, .cons (l := l0) h t => by
    obtain ⟨l', s', p⟩ := Pull.split m t
    cases s' with
    | @cons _ _ x y hc s2 =>
      refine ⟨x ++ (l0 ++ y), .cons hc (.cons h s2), ?_⟩
      rw [← List.append_assoc]
      refine (List.Perm.append_right y List.perm_append_comm).trans ?_
      rw [List.append_assoc]
      exact p.append_left l0
theorem Own.pull {cs r : List Chunk} {c : Chunk} {H : Hp} (h : Own cs H) (m : Pull cs c r) : Own (c :: r) H := by
  obtain ⟨l, s, d, g⟩ := h.out
  obtain ⟨l', s', p⟩ := m.split s
  exact ⟨l', s', ((p.map (·.1)).nodup_iff).mpr d, fun q hq => g q (p.mem_iff.mp hq)⟩
/-- a list of chunks is brought to the front -/
inductive Pulls : List Chunk → List Chunk → List Chunk → Prop
  | nil {cs : List Chunk} : Pulls cs [] cs
  | cons {c : Chunk} {cs ds r r' : List Chunk} : Pull cs c r → Pulls r ds r' → Pulls cs (c :: ds) r'
theorem Own.swap {c d : Chunk} {cs : List Chunk} {H : Hp} (h : Own (c :: d :: cs) H) : Own (d :: c :: cs) H := h.pull (.there .here)
theorem Own.tail {c : Chunk} {cs : List Chunk} {H : Hp} (h : Own (c :: cs) H) : Own cs H := by
  obtain ⟨l, s, d, g⟩ := h.out
  cases s with
  | cons hc t =>
    rw [List.map_append] at d
    exact ⟨_, t, (List.nodup_append.mp d).2.1, fun q hq => g q (List.mem_append_right _ hq)⟩
theorem Pulls.split : ∀ {cs ds r : List Chunk} {l : List (Addr × HO)}, Pulls cs ds r → Split cs l → ∃ l', Split (ds ++ r) l' ∧ l'.Perm l
  | _, _, _, l, .nil, s => ⟨l, s, .refl _⟩
  | _, _, _, _, .cons m ms, s => by
    obtain ⟨l1, s1, p1⟩ := m.split s
    cases s1 with
    | cons hc t =>
      obtain ⟨l2, s2, p2⟩ := Pulls.split ms t
      exact ⟨_, .cons hc s2, (p2.append_left _).trans p1⟩
theorem Own.pulls {cs ds r : List Chunk} {H : Hp} (h : Own cs H) (m : Pulls cs ds r) : Own (ds ++ r) H := by
  obtain ⟨l, s, d, g⟩ := h.out
  obtain ⟨l', s', p⟩ := m.split s
  exact ⟨l', s', ((p.map (·.1)).nodup_iff).mpr d, fun q hq => g q (p.mem_iff.mp hq)⟩
theorem Own.drop : ∀ {ds cs : List Chunk} {H : Hp}, Own (ds ++ cs) H → Own cs H
  | [], _, _, h => h
  | _ :: _, _, _, h => Own.drop (Own.tail h)
/-- chunks under a word: there are x with P x and the chunks f x -/
def cEx {α : Type} (P : α → Prop) (f : α → List Chunk) : Chunk := fun l => ∃ x, P x ∧ Split (f x) l
theorem Own.opn {α : Type} {P : α → Prop} {f : α → List Chunk} {cs : List Chunk} {H : Hp} (h : Own (cEx P f :: cs) H) : ∃ x, P x ∧ Own (f x ++ cs) H := by
  obtain ⟨l, s, d, g⟩ := h.out
  cases s with
  | cons hc t =>
    obtain ⟨x, px, sx⟩ := hc
    exact ⟨x, px, _, sx.app t, d, g⟩
theorem Own.cls {α : Type} {P : α → Prop} {f : α → List Chunk} {cs : List Chunk} {H : Hp} (x : α) (p : P x) (h : Own (f x ++ cs) H) : Own (cEx P f :: cs) H := by
  obtain ⟨l, s, d, g⟩ := h.out
  obtain ⟨l1, l2, e, s1, s2⟩ := s.cut
  subst e
  exact ⟨_, .cons ⟨x, p, s1⟩ s2, d, g⟩
/-- the address of an object of the list is not one that is free -/
theorem Own.ne_free {cs : List Chunk} {H : Hp} {a p : Addr} {o : HO} (h : Own cs H) (m : pt a o ∈ cs) (n : H p = none) : a ≠ p := ne_of_none (h.get m) n
/-- two objects of the list stand apart -/
theorem Own.ne {cs : List Chunk} {H : Hp} {a b : Addr} {o u : HO} (h : Own (pt a o :: cs) H) (m : pt b u ∈ cs) : a ≠ b := by
  obtain ⟨l, s, d, g⟩ := h.out
  cases s with
  | @cons _ _ l0 _ hc t =>
    have hc' : l0 = [(a, o)] := hc
    subst hc'
    intro e
    subst e
    have hm := t.mem m
    rw [List.singleton_append, List.map_cons] at d
    exact (List.nodup_cons.mp d).1 (List.mem_map.mpr ⟨_, hm, rfl⟩)
/-! ### where a reading stops -/
structure ZIf (c A B : Prop) : Prop where
  t : c → A
  f : ¬ c → B
structure ZGet (H : Hp) (a : Addr) (R : HO → Prop) : Prop where
  out : ∃ o, H a = some o ∧ R o
structure ZNew (H : Hp) (o : HO) (R : Addr → Hp → Prop) : Prop where
  out : ∀ p, H p = none → R p (upd H p o)
structure ZSet (H : Hp) (a : Addr) (o : HO) (R : Hp → Prop) : Prop where
  out : R (upd H a o)
structure ZSide (c A : Prop) : Prop where
  c : c
  a : A
structure ZCall (sp : Sp) (vs : List V) (H : Hp) (Q : VK) (E : XK) : Prop where
  out : sp vs H Q E
/-- a list (true) or a tuple (false) is read -/
structure ZSq (K : PySem.W.Frag) (H : Hp) (a : Addr) (R : Bool → List V → Prop) : Prop where
  out : ∃ b xs, (match b with | true => SqL K H a xs | false => SqT K H a xs) ∧ R b xs
structure ZAt {α : Type} (xs : List α) (i : Int) (R : α → Prop) : Prop where
  out : ∃ v, atI xs i = some v ∧ R v
section
variable {K : PySem.W.Frag} {H : Hp} {cs ds : List Chunk} {a : Addr} {o o' : HO}
theorem zget {R : HO → Prop} (h : Own cs H) (m : pt a o ∈ cs) (r : R o) : ZGet H a R := ⟨o, h.get m, r⟩
theorem znew {R : Addr → Hp → Prop} (h : Own cs H) (r : ∀ p H', Own (pt p o :: cs) H' → R p H') : ZNew H o R := ⟨fun p n => r p _ (h.new n)⟩
theorem zset {R : Hp → Prop} (h : Own cs H) (m : Rep a o o' cs ds) (r : ∀ H', Own ds H' → R H') : ZSet H a o' R := ⟨r _ (h.set m)⟩
theorem zsq_l {R : Bool → List V → Prop} {xs : List V} (h : Own cs H) (m : pt a (.lst xs) ∈ cs) (r : R true xs) : ZSq K H a R := ⟨true, xs, SqL.of (h.get m), r⟩
theorem zsq_t {R : Bool → List V → Prop} {xs : List V} (h : Own cs H) (m : pt a (.tup xs) ∈ cs) (r : R false xs) : ZSq K H a R := ⟨false, xs, SqT.of (h.get m), r⟩
theorem zsq_f {R : Bool → List V → Prop} {xs : List V} {ob : Obj} (h : Own cs H) (m : pt a (.frz ob (.lst xs)) ∈ cs) (r : R true xs) : ZSq K H a R := ⟨true, xs, .inl (.inr ⟨ob, h.get m⟩), r⟩
theorem zsq_kl {R : Bool → List V → Prop} {xs : List V} (h : ∀ H, SqL K H a xs) (r : R true xs) : ZSq K H a R := ⟨true, xs, h H, r⟩
theorem zsq_kt {R : Bool → List V → Prop} {xs : List V} (h : ∀ H, SqT K H a xs) (r : R false xs) : ZSq K H a R := ⟨false, xs, h H, r⟩
theorem zif_t {c A B : Prop} (h : c) (a : A) : ZIf c A B := ⟨fun _ => a, fun n => (n h).elim⟩
theorem zif_f {c A B : Prop} (h : ¬ c) (b : B) : ZIf c A B := ⟨fun p => (h p).elim, fun _ => b⟩
theorem zif_iff {c A B : Prop} [Decidable c] : ZIf c A B = if c then A else B := by
  refine propext ⟨fun h => ?_, fun h => ?_⟩
  · by_cases p : c
    · rw [if_pos p]
      exact h.t p
    · rw [if_neg p]
      exact h.f p
  · by_cases p : c
    · rw [if_pos p] at h
      exact zif_t p h
    · rw [if_neg p] at h
      exact zif_f p h
end
end Z

/-! ZExc: own errors whose __init__ begins with super().__init__(..) -/
namespace Z
open PySem PySem.Spec PyProof.Rows L2
open PySem.HandSPX (excO)
section
variable {K : PySem.W.Frag} {mg : Str → Option Value} {h h' : Heap} {x : Addr} {o : Obj}
theorem ns_but {b : Addr} {m : Str → Option Value} (n : h.Ns b m) (ho : h.get? x = some o) (hd : ∀ es ep, o.data ≠ .dict es ep) (k : ∀ b u, b ≠ x → h.get? b = some u → h'.get? b = some u) : h'.Ns b m := by
  obtain ⟨u, es, ep, e, d, r⟩ := n
  have ne : b ≠ x := fun z => by
    rw [z, ho] at e
    cases e
    exact hd _ _ d
  exact ⟨u, es, ep, k b u ne e, d, r⟩
theorem mod_but (M : Mod K mg h) (hx : K.lookup x = none) (ho : h.get? x = some o) (hd : ∀ es ep, o.data ≠ .dict es ep) (k : ∀ b u, b ≠ x → h.get? b = some u → h'.get? b = some u) : Mod K mg h' := by
  obtain ⟨mb, n1, n2⟩ := M.blt
  obtain ⟨mc, l1, l2⟩ := M.nolimit
  refine ⟨fun b u e => k b u (fun z => ?_) (M.kin b u e), ns_but M.glob ho hd k, ⟨mb, ns_but n1 ho hd k, n2⟩, ⟨mc, ns_but l1 ho hd k, l2⟩⟩
  rw [z, hx] at e
  cases e
theorem mod_keep (M : Mod K mg h) (k : ∀ b u, h.get? b = some u → h'.get? b = some u) : Mod K mg h' := by
  obtain ⟨mb, n1, n2⟩ := M.blt
  exact ⟨M.kin.keeps k, M.glob.keeps k, ⟨mb, n1.keeps k, n2⟩, M.nolimit.keeps k⟩
end
/-- a method over a cell of its class, as the top has left it -/
structure SupFn (P : Program) (K : PySem.W.Frag) (D f : Addr) (name qual : Str) (params : Arguments) (body : List Stmt) (scope : Scope) (cda cc : Addr) (fd : FuncData) : Prop where
  lk : ∃ (oc : Value) (od : Option Addr) (doc pm : Value) (an : Option Addr) (ct : Value) (osl : Array (Option Value)),
    fd = PySem.W.ksFn name qual params body scope .none .none doc pm an (.ref cda) ct cc ∧ K.lookup f = some ⟨oc, od, .func fd, osl⟩
  cd : PySem.W.codeIn K (.ref cda) qual = true
  co : ∃ (cl : Value) (dd : Option Addr) (vs : Array Value) (sl : Array (Option Value)) (file : Str) (tf : Tok), K.lookup cda = some ⟨cl, dd, .fields vs, sl⟩ ∧ vs[2]? = some (.str file tf) ∧ ((P.main.file : Str) == file) = true
  ce : ∃ (cl : Value) (dd : Option Addr) (sl : Array (Option Value)), K.lookup cc = some ⟨cl, dd, .cell (some (.ref D)), sl⟩
  ty : PySem.W.typeIn K (.ref f) = some (.type "function")
  dc : (PySem.W.clsIn K D).isSome = true
section
variable {P : Program} {w : World} {A : Around} {E : Value → Shared → Prop} {s : Shared} {K : PySem.W.Frag} {mg : Str → Option Value} {D f cda cc x C t0 L : Addr} {name qual : Str} {params : Arguments} {scope : Scope} {body bd : List Stmt} {fd : FuncData} {m : Str → Option Value}
theorem sup_obj {p0 p1 : Pos} {attr : Str} {whole : Sem Value} {ar : Arg} {Q : Value → Shared → Prop} (M : Mod K mg s.heap) (hn : s.heap.Ns L m) (F : SupFn P K D f name qual params bd scope cda cc fd)
    (hp : (params.posonlyargs ++ params.args).head? = some ar) (hv : m ar.arg = some (.ref x)) (hx : s.heap.get? x = some (excO C t0)) (hsub : PySem.W.mroIn K C (.ref D) = some true) (hsuper : mg "super" = none)
    (hat : (attr == ("__class__" : Str)) = false) (hks : scope.names.lookup ("super" : Str) = some .globalImplicit) (hkc : scope.names.lookup ("__class__" : Str) = some .free) (hka : scope.names.lookup ar.arg = some .local) (hk : scope.kind = .function)
    (htop : (P.main.scope.names.lookup ("super" : Str)).isSome = false)
    (hq : ∀ h', h'.get? s.heap.objs.size = some (PySem.W.ks_superObj D x C) → (∀ y o, s.heap.get? y = some o → h'.get? y = some o) → Q (.ref s.heap.objs.size) { s with heap := h' }) :
    _root_.PySem.wpAt (model P w) A (.func body (PySem.W.ksEnv qual scope L f (.ref cda) cc)) (attributeBase (.Call (.Name "super" p0) [] [] p1) attr (PySem.W.ksEnv qual scope L f (.ref cda) cc) whole) Q E s := by
  have X := M.kin
  obtain ⟨mb, nb, hb⟩ := M.blt
  obtain ⟨oc, od, doc, pm, an, ct, osl, rfl, lf⟩ := F.lk
  obtain ⟨cl, dd, vs, sl, file, tf, lc, e2, ef⟩ := F.co
  obtain ⟨cl', dd', sl', lce⟩ := F.ce
  obtain ⟨cdD, hD⟩ := Option.isSome_iff_exists.mp F.dc
  obtain ⟨hh, g, d, t, os⟩ := s
  obtain ⟨oD, hD1, hD2⟩ : ∃ oD, hh.get? D = some oD ∧ oD.data = .cls cdD := by
    unfold PySem.W.clsIn at hD
    split at hD
    · rename_i c d cd' sl ho
      cases hD
      exact ⟨_, X _ _ ho, rfl⟩
    · cases hD
  refine PySem.ks_wpAt_super_base (env := PySem.W.ksEnv qual scope L f (.ref cda) cc) hks hkc hat rfl (X _ _ lf) rfl hp rfl (X _ _ lc) rfl e2 ef htop ?_
  refine PySem.W.ks_loadName_global hk hks (Calls.loadGlobal_builtin (env := PySem.W.ksEnv qual scope L f (.ref cda) cc) M.glob hsuper nb ((hb _ (by decide +kernel)).trans (by decide +kernel : bootBuiltins "super" = some (.type "super"))) ⟨rfl, ?_⟩)
  refine wpAny_loadName_free hk hkc rfl ⟨_, X _ _ lce, rfl⟩ ?_
  refine wpAny_loadName_local hk hka hn hv ?_
  refine PySem.ks_wpAny_isType_cls hD1 hD2 ⟨rfl, ?_⟩
  exact PySem.ks_wpAny_call_super hD1 hD2 hx rfl (fun c z => by cases z) (PySem.W.looks_mroIn X hsub) hq
end
/-! ### what is written in such an __init__ -/
/-- a parameter, a written text -/
inductive Src where
  | par (i : Nat)
  | cst (x : Str)
def Src.val (vs : List V) : Src → V
  | .par i => vs.getD i .non
  | .cst x => .str x
inductive SrcE (ps : List Str) : Src → Expr → Prop
  | par {i : Nat} {nm : Str} {q : Pos} : ps[i]? = some nm → (nm == ("__debug__" : Str)) = false → SrcE ps (.par i) (.Name nm q)
  | cst {x : Str} {j : Nat} {q : Pos} : SrcE ps (.cst x) (.Constant (.str x) j q)
/-- self.f = source -/
inductive StE (ps : List Str) : Str × Src → Stmt → Prop
  | mk {f : Str} {s : Src} {e : Expr} {q1 q2 q3 : Pos} : SrcE ps s e → StE ps (f, s) (.Assign [.Attribute (.Name "self" q1) f q2] e q3)
/-- the names stand in the frame -/
structure Loaded (env : Env) (ps : List Str) (us : List Value) (x : Addr) (m : Str → Option Value) : Prop where
  kind : env.scope.kind = .function
  slf : env.kindOf "self" = some .local
  par : ∀ (i : Nat) (nm : Str), ps[i]? = some nm → env.kindOf nm = some .local
  mself : m "self" = some (.ref x)
  mpar : ∀ (i : Nat) (nm : Str), ps[i]? = some nm → m nm = us[i]?
section
variable {M : Model} {A : Around} {E : Value → Shared → Prop} {s : Shared} {env : Env} {ps : List Str} {us : List Value} {vs : List V} {x : Addr} {m : Str → Option Value}
theorem src_ok {src : Src} {e : Expr} {Q : Value → Shared → Prop} (Ld : Loaded env ps us x m) (hn : s.heap.Ns env.locals m) (r : Vals vs us) (hl : ps.length = vs.length) (h : SrcE ps src e)
    (q : ∀ u tk, RelV (src.val vs) u → Q u { s with toks := tk }) : wpAny M A (eval e env) Q E s := by
  cases h with
  | @par i nm p hp hd =>
    have hi : i < vs.length := by
      have z := (List.getElem?_eq_some_iff.mp hp).1
      omega
    obtain ⟨u, hu, ru⟩ := r.get (List.getElem?_eq_getElem hi)
    refine wpAny_Name (wpAny_loadName_local Ld.kind (Ld.par i nm hp) hn ((Ld.mpar i nm hp).trans hu) ?_) hd
    refine q u s.toks ?_
    have ev : Src.val vs (.par i) = vs[i] := by
      show vs.getD i .non = vs[i]
      rw [List.getD_eq_getElem?_getD, List.getElem?_eq_getElem hi, Option.getD_some]
    rw [ev]
    exact ru
  | @cst z j p =>
    exact Calls.Constant_str (q _ _ ⟨_, rfl⟩)
theorem srcs_ok {pos : Pos} (Ld : Loaded env ps us x m) (r : Vals vs us) (hl : ps.length = vs.length) {srcs : List Src} {es : List Expr} (hp : Paired (SrcE ps) srcs es) : ∀ {s : Shared} {Q : List Value → Shared → Prop}, s.heap.Ns env.locals m →
    (∀ ws tk, Vals (srcs.map (Src.val vs)) ws → Q ws { s with toks := tk }) → wpAny M A (spliced (backTo pos (starEach es env))) Q E s := by
  induction hp with
  | nil =>
    intro s Q hn q
    exact Calls.spliced_nil (q [] s.toks .nil)
  | @cons a e srcs es h t ih =>
    intro s Q hn q
    have he : starEach (e :: es) env = (false, eval e env) :: starEach es env := by
      cases h
      · rfl
      · rfl
    rw [he]
    show wpAny _ _ (spliced ((false, eval e env) :: backTo pos (starEach es env))) _ _ s
    refine Calls.spliced_cons (src_ok Ld hn r hl h fun u tk ru => ?_)
    exact ih (s := { s with toks := tk }) hn fun ws tk' rw' => q (u :: ws) tk' (.cons ru rw')
end
/-! ### the class of the error -/
section
variable {P : Program} {w : World} {A : Around} {E : Value → Shared → Prop} {s : Shared} {K : PySem.W.Frag} {mg : Str → Option Value} {x C t1 dx : Addr} {f : Str} {u : Value} {y : V}
/-- self.f = u where there is no dict as yet -/
theorem set_first (T : OexC K C) (M : Mod K mg s.heap) (hx : s.heap.get? x = some (excO C t1)) (ha : PySem.W.findIn K (.ref C) f = some none) {Q : Unit → Shared → Prop}
    (q : ∀ h' tk dx, (∀ b o, b ≠ x → s.heap.get? b = some o → h'.get? b = some o) → s.heap.objs.size ≤ dx → dx ≠ x →
      h'.get? x = some ({ cls := .ref C, dict := some dx, data := .fields #[.ref t1, .none, .none, .none, .bool false, .none] } : Obj) → h'.Ns1 dx (fun y => if y = f then some u else none) → Q () { s with heap := h', toks := tk }) :
    wpAny (model P w) A (setAttr (.ref x) f u) Q E s := by
  obtain ⟨nm, qn, N, bs, bm, sn, sub, ab, col, dd, k0, k1, k2, k3, k5, hC, hbm⟩ := T.cls
  have hcl : PySem.W.clsIn K C = some { name := nm, bases := bs, mro := .ref C :: bm, ns := N, qualname := qn, hasDict := true, slotNames := sn, subclasses := sub, abstract := ab, collection := col, hasDel := false } := by
    unfold PySem.W.clsIn
    rw [hC]
    all_goals rfl
  obtain ⟨hp, g, d, t, os⟩ := s
  refine PySem.W.set_plain M.kin (ox := excO C t1) (od := none) ⟨hx, rfl, rfl, trivial⟩ T.sa ?_
  exact PySem.HandSPX.exc_osa M.kin hx hcl (show PySem.HandSPX.refsVE (.ref C :: bm) = true from hbm) rfl ha fun h' tk' dx k dn dne hx' hn => q h' tk' dx k dn dne hx' hn
/-- self.f = u where there is one -/
theorem set_next {mA : Str → Option Value} {fs : List (Str × V)} (T : OexC K C) (M : Mod K mg s.heap) (hx : s.heap.get? x = some ({ cls := .ref C, dict := some dx, data := .fields #[.ref t1, .none, .none, .none, .bool false, .none] } : Obj))
    (hns : s.heap.Ns1 dx mA) (rel : ∀ f, RelO (fs.lookup f) (mA f)) (hl : fs.length ≤ 900) (ha : PySem.W.findIn K (.ref C) f = some none) {Q : Unit → Shared → Prop}
    (q : ∀ h' tk, (∀ b o, b ≠ dx → s.heap.get? b = some o → h'.get? b = some o) → h'.Ns1 dx (fun y => if y = f then some u else mA y) → Q () { s with heap := h', toks := tk }) :
    wpAny (model P w) A (setAttr (.ref x) f u) Q E s := by
  obtain ⟨nm, qn, N, bs, bm, sn, sub, ab, col, dd, k0, k1, k2, k3, k5, hC, hbm⟩ := T.cls
  have hcl : PySem.W.clsIn K C = some { name := nm, bases := bs, mro := .ref C :: bm, ns := N, qualname := qn, hasDict := true, slotNames := sn, subclasses := sub, abstract := ab, collection := col, hasDel := false } := by
    unfold PySem.W.clsIn
    rw [hC]
    all_goals rfl
  have hw := within_of rel
  obtain ⟨hp, g, d, t, os⟩ := s
  obtain ⟨oD, _, _, hoD, _, _⟩ := hns.count hw
  refine PySem.W.set_plain M.kin (ox := { cls := .ref C, dict := some dx, data := .fields #[.ref t1, .none, .none, .none, .bool false, .none] }) (od := some oD) ⟨hx, rfl, rfl, hoD⟩ T.sa ?_
  exact PySem.OEX.osa_old M.kin hx hns hw (by rw [List.length_map]; omega) hcl (show PySem.HandSPX.refsVE (.ref C :: bm) = true from hbm) rfl ha fun h' tk' k hn => q h' tk' k hn
/-- what an __init__ has left of x -/
structure Made (h h' : Heap) (x C dx : Addr) (fs : List (Str × V)) : Prop where
  keep : ∀ b o, b ≠ x → h.get? b = some o → h'.get? b = some o
  obj : ∃ t1 : Addr, h'.get? x = some ({ cls := .ref C, dict := some dx, data := .fields #[.ref t1, .none, .none, .none, .bool false, .none] } : Obj)
  big : h.objs.size ≤ dx
  ne : dx ≠ x
  ns : ∃ mA, h'.Ns1 dx mA ∧ ∀ f, RelO (fs.lookup f) (mA f)
  few : fs.length ≤ 800
theorem Made.mod {h h' : Heap} {fs : List (Str × V)} (D : Made h h' x C dx fs) (M : Mod K mg h) (hx : h.get? x = some (excO C t1)) (hk : K.lookup x = none) : Mod K mg h' :=
  mod_but M hk hx (fun _ _ z => by cases z) D.keep
/-- the stores behind the call of super -/
theorem stores_ok {env : Env} {ps : List Str} {us : List Value} {vs : List V} {m : Str → Option Value} {h₀ : Heap} (T : OexC K C) (Ld : Loaded env ps us x m) (r : Vals vs us) (hl : ps.length = vs.length) (hx0 : h₀.get? x = some (excO C t1)) (hk : K.lookup x = none)
    (hL : h₀.Ns env.locals m) (M0 : Mod K mg h₀) {l : List (Str × Src)} {sts : List Stmt} (hp : Paired (StE ps) l sts) : ∀ {s : Shared} {fs : List (Str × V)} {Q : Flow → Shared → Prop}, (∀ p ∈ l, PySem.W.findIn K (.ref C) p.1 = some none) →
    Made h₀ s.heap x C dx fs → fs.length + l.length ≤ 800 → (∀ h' tk, Made h₀ h' x C dx (l.foldl (fun a p => (p.1, p.2.val vs) :: a) fs) → Q .next { s with heap := h', toks := tk }) → wpAny (model P w) A (execs sts env) Q E s := by
  induction hp with
  | nil =>
    intro s fs Q _ D _ q
    exact wpAny_execs_nil (q s.heap s.toks D)
  | @cons p st l sts hst t ih =>
    intro s fs Q hf D hz q
    have Mn := D.mod M0 hx0 hk
    have hn : s.heap.Ns env.locals m := ns_but hL hx0 (fun _ _ z => by cases z) D.keep
    obtain ⟨tt, ho⟩ := D.obj
    obtain ⟨mA, hns, rel⟩ := D.ns
    rw [List.length_cons] at hz
    cases hst with
    | @mk f src e q1 q2 q3 he =>
      have hsw : swapsWith e (some (.Attribute (.Name "self" q1) f q2)) q3.line env = pure false := by
        cases he
        · rfl
        · rfl
      refine wpAny_execs_cons (plainObj_wpAny_Assign_Attribute ?_ hsw)
      refine src_ok Ld hn r hl he fun u tk ru => ?_
      refine wpAny_Name (wpAny_loadName_local (s := { s with toks := tk }) Ld.kind Ld.slf hn Ld.mself ?_) (by decide)
      refine set_next (s := { s with toks := tk }) T Mn ho hns rel (by omega) (hf _ List.mem_cons_self) fun h' tk' k hn' => ?_
      have D' : Made h₀ h' x C dx ((f, src.val vs) :: fs) := by
        refine ⟨fun b o hb e => ?_, ⟨tt, k x _ D.ne.symm ho⟩, D.big, D.ne, ⟨_, hn', fun g => relO_put ru rel g⟩, by rw [List.length_cons]; omega⟩
        exact k b o (Nat.ne_of_lt (Nat.lt_of_lt_of_le (Heap.lt_size e) D.big)) (D.keep b o hb e)
      exact ih (s := { s with heap := h', toks := tk' }) (fun p hp => hf p (List.mem_cons_of_mem _ hp)) D' (by rw [List.length_cons]; omega) q
end
/-! ### the promise of such an __init__ -/
def InitOk (P : Program) (w : World) (K : PySem.W.Frag) (mg : Str → Option Value) (C f : Addr) (k n : Nat) (mk : List V → List (Str × V)) : Prop :=
  ∀ (A : Around) (s : Shared) (x t0 : Addr) (us : List Value) (vs : List V) (R : Result → Shared → Prop), A.depth + 3 * k < recursionLimit → Mod K mg s.heap → s.heap.get? x = some (excO C t0) → K.lookup x = none → Vals vs us → vs.length = n →
    (∀ h' tk dx, Made s.heap h' x C dx (mk vs) → R (.ok (.ret .none)) { s with heap := h', toks := tk }) → codeAny (model P w) A (.call (.ref f) ⟨.ref x :: us, []⟩) R s
/-- super().__init__(..) as the semantics reads it -/
def SupCall (e : Expr) (es : List Expr) (p0 p1 p2 p3 : Pos) : Prop := ∀ env : Env, ∃ pl : Sem Bool,
  eval (.Call (.Attribute (.Call (.Name "super" p0) [] [] p1) "__init__" p2) (e :: es) [] p3) env = (do
    let ov ← attributeBase (.Call (.Name "super" p0) [] [] p1) "__init__" env (eval (.Call (.Name "super" p0) [] [] p1) env)
    standAt p2.atName
    let (f, first) ← holding [ov] (getMethod ov "__init__" pl)
    callWith p3 f first (backTo p3 (starEach (e :: es) env)) [])
/-- the shape of such a def -/
structure InitTx (ps : List Str) (args : List Src) (stores : List (Str × Src)) (params : Arguments) (body : List Stmt) (scope : Scope) : Prop where
  first : ∃ ar, (params.posonlyargs ++ params.args).head? = some ar ∧ ar.arg = "self"
  kind : scope.kind = .function
  co : scope.isCoroutine = false
  gen : scope.isGenerator = false
  sup : scope.names.lookup ("super" : Str) = some .globalImplicit
  clsn : scope.names.lookup ("__class__" : Str) = some .free
  slf : scope.names.lookup ("self" : Str) = some .local
  par : ∀ nm ∈ ps, scope.names.lookup nm = some .local
  nocell : ∀ y ∈ scope.names, y.2 ≠ .cell
  nd : (("self" : Str) :: ps).Nodup
  body : ∃ p0 p1 p2 p3 p4 e es sts, body = .Expr (.Call (.Attribute (.Call (.Name "super" p0) [] [] p1) "__init__" p2) (e :: es) [] p3) p4 :: sts ∧ Paired (SrcE ps) args (e :: es) ∧ Paired (StE ps) stores sts ∧ SupCall e es p0 p1 p2 p3
theorem lookup_rev {α : Type} {k : Str} : ∀ {l : List (Str × α)}, (l.map (·.1)).Nodup → l.reverse.lookup k = l.lookup k
  | [], _ => rfl
  | (a, v) :: l, nd => by
    rw [List.map_cons] at nd
    obtain ⟨n1, n2⟩ := List.nodup_cons.mp nd
    rw [List.reverse_cons, List.lookup_append, lookup_rev n2]
    by_cases e : k = a
    · subst e
      have hn : l.lookup k = none := by
        refine List.lookup_eq_none_iff.mpr fun p hp => ?_
        have ne : p.1 ≠ k := fun z => n1 (List.mem_map.mpr ⟨p, hp, z⟩)
        simpa using Ne.symm ne
      rw [hn]
      simp [List.lookup]
    · have eb : (k == a) = false := by simpa using e
      simp [List.lookup, eb]
theorem zip_at {α : Type} : ∀ {ps : List Str} {us : List α} {i : Nat} {nm : Str}, ps.Nodup → ps.length = us.length → ps[i]? = some nm → (ps.zip us).lookup nm = us[i]?
  | [], _, i, _, _, _, h => by simp at h
  | p :: ps, [], _, _, _, h, _ => by simp at h
  | p :: ps, u :: us, 0, nm, _, _, h => by
    simp at h
    subst h
    simp [List.lookup]
  | p :: ps, u :: us, i + 1, nm, nd, hl, h => by
    obtain ⟨n1, n2⟩ := List.nodup_cons.mp nd
    have h' : ps[i]? = some nm := by simpa using h
    have ne : nm ≠ p := fun z => n1 (z ▸ List.mem_of_getElem? h')
    have eb : (nm == p) = false := by simpa using ne
    have q := zip_at (us := us) n2 (by simpa using hl) h'
    simp [List.lookup, eb, q]
/-- what the class of the error and the class D of the def say of super -/
structure SupC (P : Program) (K : PySem.W.Frag) (mg : Str → Option Value) (C D : Addr) (v : Value) : Prop where
  o : OexC K C
  sub : PySem.W.mroIn K C (.ref D) = some true
  sup : PySem.W.ks_superIn K C D "__init__" = some (some v)
  ve : PySem.W.subIn K (.ref C) (.type "ValueError") = some true
  st : PySem.W.nsIn K cStatics "thirdparty.any" = some none
  sg : mg "super" = none
  top : (P.main.scope.names.lookup ("super" : Str)).isSome = false
section
variable {P : Program} {w : World} {K : PySem.W.Frag} {mg : Str → Option Value} {C D f f2 cda cc : Addr} {name qual : Str} {params : Arguments} {scope : Scope} {body : List Stmt} {fd : FuncData} {ps : List Str} {args : List Src} {stores : List (Str × Src)}
/-- the way into such a def: what is left is super's __init__, bound, called, and the stores -/
theorem init_enter (F : SupFn P K D f name qual params body scope cda cc fd) (T : InitTx ps args stores params body scope) (hb : ∀ (u : Value) (us : List Value), us.length = ps.length → bindArgs fd ⟨u :: us, []⟩ = pure ((("self" : Str), u) :: ps.zip us))
    {v : Value} (S : SupC P K mg C D v) (hf : ∀ p ∈ stores, PySem.W.findIn K (.ref C) p.1 = some none)
    {A : Around} {s : Shared} {x t0 : Addr} {us : List Value} {vs : List V} {R : Result → Shared → Prop} (hd : A.depth < recursionLimit) (M : Mod K mg s.heap) (hx : s.heap.get? x = some (excO C t0)) (hxk : K.lookup x = none) (r : Vals vs us) (hl : vs.length = ps.length)
    (sup : ∀ (s₁ : Shared) (env : Env) (e : Expr) (es : List Expr) (sts : List Stmt) (p2 pos : Pos) (pl : Sem Bool) (m : Str → Option Value) (so : Addr), s₁.gens = s.gens → s₁.drawn = s.drawn → s₁.os = s.os → (∀ b o, s.heap.get? b = some o → s₁.heap.get? b = some o) → Mod K mg s₁.heap → s₁.heap.get? x = some (excO C t0) →
      Loaded env ps us x m → s₁.heap.Ns env.locals m → s.heap.objs.size ≤ env.locals → Paired (SrcE ps) args (e :: es) → Paired (StE ps) stores sts → s₁.heap.get? so = some (PySem.W.ks_superObj D x C) →
      wpAny (model P w) (A.deeper env) (getMethod (.ref so) "__init__" pl) (fun fx s₂ => wpAny (model P w) (A.deeper env) (callWith pos fx.1 fx.2 (backTo pos (starEach (e :: es) env)) [])
        (fun _ s₃ => wpAny (model P w) (A.deeper env) (execs sts env) (fun fl s' => fl = .next ∧ R (.ok (.ret .none)) s') (fun _ _ => False) s₃) (fun _ _ => False) s₂) (fun _ _ => False) s₁) :
    codeAny (model P w) A (.call (.ref f) ⟨.ref x :: us, []⟩) R s := by
  have X := M.kin
  obtain ⟨oc, od, doc, pm, an, ct, osl, rfl, lf⟩ := F.lk
  obtain ⟨ar, ha, ea⟩ := T.first
  obtain ⟨p0, p1, p2, p3, p4, e, es, sts, rfl, hargs, hst, hcall⟩ := T.body
  obtain ⟨pl, hpl⟩ := hcall (PySem.W.ksEnv qual scope s.heap.objs.size f (.ref cda) cc)
  have hus : us.length = ps.length := by rw [← Paired.length r, hl]
  have hloc : ∀ y ∈ (("self" : Str), Value.ref x) :: ps.zip us, scope.names.lookup y.1 = some .local := fun y hy => by
    rcases List.mem_cons.mp hy with rfl | hy
    · exact T.slf
    · exact T.par _ (List.of_mem_zip hy).1
  have nd : (((("self" : Str), Value.ref x) :: ps.zip us).map (·.1)).Nodup := by
    rw [List.map_cons, List.map_fst_zip (by omega)]
    exact T.nd
  refine PySem.ks_codeAny_call_defAt hd (X _ _ lf) rfl M.nolimit (PySem.W.codeRec_of X F.cd) rfl (.of_eq (hb _ _ hus)) T.nocell hloc (fun h₀ hn k => ?_) T.co T.gen T.kind
  have M1 : L2.Mod K mg h₀ := mod_keep M k
  have hx1 := k _ _ hx
  have Ld : Loaded (PySem.W.ksEnv qual scope s.heap.objs.size f (.ref cda) cc) ps us x (fun y => ((("self" : Str), Value.ref x) :: ps.zip us).reverse.lookup y) := by
    refine ⟨T.kind, T.slf, fun i nm h => T.par nm (List.mem_of_getElem? h), ?_, fun i nm h => ?_⟩
    · rw [lookup_rev nd]
      simp [List.lookup]
    · rw [lookup_rev nd]
      have ne : nm ≠ "self" := fun z => (List.nodup_cons.mp T.nd).1 (z ▸ List.mem_of_getElem? h)
      have eb : (nm == ("self" : Str)) = false := by simpa using ne
      have q := zip_at (us := us) (List.nodup_cons.mp T.nd).2 hus.symm h
      simp [List.lookup, eb, q]
  show _root_.PySem.wpAt _ _ (.func _ (PySem.W.ksEnv qual scope s.heap.objs.size f (.ref cda) cc)) (execs _ (PySem.W.ksEnv qual scope s.heap.objs.size f (.ref cda) cc)) _ _ _
  refine PySem.ks_wpAt_mono (Q := fun fl s' => fl = .next ∧ R (.ok (.ret .none)) s') (E := fun _ _ => False) ?_ (fun fl s' hh => by rw [hh.1]; exact hh.2) fun _ _ z => z.elim
  refine PySem.ks_wpAt_execs_cons (PySem.ks_wpAt_Expr_any (PySem.ks_wpAt_MethodCall (pl := pl) (sup_obj (s := { s with heap := h₀, toks := _ }) M1 hn F ha ?hv hx1 S.sub S.sg (by decide) T.sup T.clsn ?hka T.kind S.top fun h1 hso k1 => ?_) ?he) ?hi ?hs)
  case hv => rw [ea]; exact Ld.mself
  case hka => rw [ea]; exact T.slf
  case he => exact hpl
  case hs => rfl
  case hi =>
    show ((scope.kind == .module) && _) = false
    rw [T.kind]
    rfl
  have M2 : L2.Mod K mg h1 := mod_keep M1 k1
  refine wpAny_mono (sup { s with heap := h1, toks := _ } _ e es sts p2 p3 _ _ _ rfl rfl rfl (fun b o z => k1 b o (k b o z)) M2 (k1 _ _ hx1) Ld (hn.keeps k1) (Nat.le_refl _) hargs hst hso) (fun fx s2 z => ?_) fun _ _ z => z
  refine wpAny_mono z (fun _ s3 y => ?_) fun _ _ y => y
  exact wpAt_of_wpAny y
theorem clsIn_of (T : OexC K C) : ∃ cd, PySem.W.clsIn K C = some cd := by
  obtain ⟨nm, qn, N, bs, bm, sn, sub, ab, col, dd, k0, k1, k2, k3, k5, hC, hbm⟩ := T.cls
  exact ⟨_, by
    unfold PySem.W.clsIn
    rw [hC]
    all_goals rfl⟩
/-- super's __init__ is ValueError's: one store behind it -/
theorem init_root {f1 : Str} {src1 : Src} (F : SupFn P K D f name qual params body scope cda cc fd) (T : InitTx ps args [(f1, src1)] params body scope) (hb : ∀ (u : Value) (us : List Value), us.length = ps.length → bindArgs fd ⟨u :: us, []⟩ = pure ((("self" : Str), u) :: ps.zip us))
    (S : SupC P K mg C D (.builtin "ValueError.__init__")) (hf : PySem.W.findIn K (.ref C) f1 = some none) (ha : args.length ≤ 100) : InitOk P w K mg C f 1 ps.length (fun vs => [(f1, src1.val vs)]) := by
  intro A s x t0 us vs R hd M hx hxk r hl hq
  refine init_enter F T hb S (fun p hp => by rw [List.mem_singleton.mp hp]; exact hf) (by omega) M hx hxk r hl ?_
  intro s1 env e es sts p2 pos pl m so eg ed eo k M1 hx1 Ld hn hL hargs hst hso
  obtain ⟨cd, hc⟩ := clsIn_of S.o
  have hal : ∀ ws : List Value, Vals (args.map (Src.val vs)) ws → ws.length ≤ sizeLine := fun ws rw' => by
    rw [← Paired.length rw', List.length_map, sizeLine_eq]
    omega
  obtain ⟨nm, qn, N, bs, bm, sn, sub, ab, col, dd, k0, k1, k2, k3, k5, hC, hbm⟩ := S.o.cls
  obtain ⟨hh, g, d, t, os⟩ := s1
  have I : PySem.W.InstAt hh x (excO C t0) C none := ⟨hx1, rfl, rfl, trivial⟩
  have X1 := M1.kin
  have hm := S.sup
  unfold PySem.W.ks_superIn at hm
  rw [hc] at hm
  have hI : PySem.W.Looks (model P w) hh (isInstance (.ref x) (.type "ValueError")) true := I.type.andThen (PySem.W.looks_subIn X1 S.ve)
  refine PySem.W.kxs_getMethod PySem.W.kxs_ValueError hso (PySem.W.looks_opaque X1 S.st) (l₀ := cd.mro) (fun A Q E s kk q => wpAny_bind ((PySem.W.looks_clsIn X1 hc) A _ E s kk (wpAny_pure q))) rfl X1 hm hI (PySem.W.ks_ne X1 I hc) (by decide) ?_
  -- the bound __init__ is called
  have hpush : (hh.push (PySem.W.kxs_mw "ValueError.__init__" x)).get? hh.objs.size = some (PySem.W.kxs_mw "ValueError.__init__" x) := Heap.get?_push_at rfl rfl
  have kp : ∀ b o, hh.get? b = some o → (hh.push (PySem.W.kxs_mw "ValueError.__init__" x)).get? b = some o := fun b o z => Heap.get?_push_of_some _ z
  cases hargs with
  | @cons a0 _ ar _ h0 h1 =>
    have he : starEach (e :: es) env = (false, eval e env) :: starEach es env := by
      cases h0
      · rfl
      · rfl
    have hplain : ∀ {srcs : List Src} {es : List Expr}, Paired (SrcE ps) srcs es → (backTo pos (starEach es env)).any (·.1) = false := fun {srcs es} hp => by
      induction hp with
      | nil => rfl
      | @cons a e srcs es h t ih =>
        have he : starEach (e :: es) env = (false, eval e env) :: starEach es env := by
          cases h
          · rfl
          · rfl
        rw [he]
        show (false || (backTo pos (starEach es env)).any (·.1)) = false
        rw [ih]
        rfl
    have hsp := fun (Q : List Value → Shared → Prop) => srcs_ok (M := model P w) (A := A.deeper env) (E := fun _ _ => False) (pos := pos) (s := ⟨hh.push (PySem.W.kxs_mw "ValueError.__init__" x), g, d, t + 1, os⟩) (Q := Q) Ld r hl.symm (.cons h0 h1) (hn.keeps kp)
    rw [he] at hsp ⊢
    refine PySem.W.kxs_callWith (i := "ValueError.__init__") (x := x) (by show (false || (backTo pos (starEach es env)).any (·.1)) = false; rw [hplain h1]; rfl) ?_
    refine Calls.evalArgs_plain (hsp _ fun ws tk rws => ⟨hpush, ?_⟩)
    have hx2 : (hh.push (PySem.W.kxs_mw "ValueError.__init__" x)).get? x = some (excO C t0) := kp _ _ hx1
    refine wpAny_call (codeAny_of_tree ?_)
    show wpAny _ (A.deeper env).in1 (callAny (.ref hh.objs.size) ⟨ws, []⟩) _ _ _
    simp only [callAny]
    refine wpAny_bind (wpAny_load hpush ?_)
    simp only [PySem.W.kxs_mw, show (Value.type "method-wrapper" == Value.type "method" || Value.type "method-wrapper" == Value.type "builtin_function_or_method" || Value.type "method-wrapper" == Value.type "method-wrapper") = true by decide, if_true]
    refine PySem.W.KFB.if_so (by decide) ?_
    refine wpAny_bind (PySem.W.check_bound_init PySem.F.excBase_ValueError.toExcCallFacts (kp _ _ (X1 _ _ hC)) hx2 rfl ?_)
    refine wpAny_bind (wpAny_pure (wpAny_pure ?_))
    refine ⟨plainId_quiet PySem.F.excBase_ValueError.init.plain _, codeAny_builtin PySem.F.excBase_ValueError.initEntry ?_⟩
    refine PySem.W.exc_init_tree (cls := .ref C) (t0 := t0) (dv := none) (c2 := .none) (c3 := .none) (b4 := .bool false) hx2 (hal ws rws) fun h2 k2 hx3 _ => ?_
    have M3 : L2.Mod K mg h2 := mod_but (mod_keep M1 kp) hxk hx2 (fun _ _ z => by cases z) k2
    have hn3 : h2.Ns env.locals m := ns_but (hn.keeps kp) hx2 (fun _ _ z => by cases z) k2
    cases hst with
    | @cons _ st _ sts' hst ht =>
      cases ht
      cases hst with
      | @mk f src e q1 q2 q3 he1 =>
        have hsw : swapsWith e (some (.Attribute (.Name "self" q1) f1 q2)) q3.line env = pure false := by
          cases he1
          · rfl
          · rfl
        refine wpAny_execs_cons (plainObj_wpAny_Assign_Attribute ?_ hsw)
        refine src_ok (s := ⟨h2, g, d, tk, os⟩) Ld hn3 r hl.symm he1 fun u tk2 ru => ?_
        refine wpAny_Name (wpAny_loadName_local (s := ⟨h2, g, d, tk2, os⟩) Ld.kind Ld.slf hn3 Ld.mself ?_) (by decide)
        refine set_first (s := ⟨h2, g, d, tk2, os⟩) S.o M3 hx3 hf fun h4 tk4 dx k4 hbig hne hx4 hn4 => ?_
        refine wpAny_execs_nil ⟨rfl, ?_⟩
        have all : ∀ b o, b ≠ x → s.heap.get? b = some o → h4.get? b = some o := fun b o hb z => k4 b o hb (k2 b o hb (kp b o (k b o z)))
        have sz : s.heap.objs.size ≤ h2.objs.size := by
          have z1 : hh.objs.size < h2.objs.size := Heap.lt_size (k2 _ _ (fun z => by
            have y := Heap.lt_size hx1
            rw [z] at y
            exact absurd y (Nat.lt_irrefl _)) hpush)
          have z2 : env.locals < hh.objs.size := hn.lt
          exact Nat.le_trans hL (Nat.le_of_lt (Nat.lt_trans z2 z1))
        have fin := hq h4 tk4 dx ⟨all, ⟨_, hx4⟩, Nat.le_trans sz hbig, hne, ⟨_, hn4, relO_put (fs := []) ru fun _ => True.intro⟩, (by decide : 1 ≤ 800)⟩
        have e1 : g = s.gens := eg
        have e2 : d = s.drawn := ed
        have e3 : os = s.os := eo
        rw [e1, e2, e3]
        exact fin
theorem srcs_plain {ps : List Str} {env : Env} {pos : Pos} {srcs : List Src} {es : List Expr} (hp : Paired (SrcE ps) srcs es) : (backTo pos (starEach es env)).any (·.1) = false := by
  induction hp with
  | nil => rfl
  | @cons a e srcs es h t ih =>
    have he : starEach (e :: es) env = (false, eval e env) :: starEach es env := by
      cases h
      · rfl
      · rfl
    rw [he]
    show (false || (backTo pos (starEach es env)).any (·.1)) = false
    rw [ih]
    rfl
/-- super's __init__ is a def of the program's own -/
theorem init_kid {k n2 : Nat} {mk2 : List V → List (Str × V)} (F : SupFn P K D f name qual params body scope cda cc fd) (T : InitTx ps args stores params body scope) (hb : ∀ (u : Value) (us : List Value), us.length = ps.length → bindArgs fd ⟨u :: us, []⟩ = pure ((("self" : Str), u) :: ps.zip us))
    (S : SupC P K mg C D (.ref f2)) (hf : ∀ p ∈ stores, PySem.W.findIn K (.ref C) p.1 = some none) (I2 : InitOk P w K mg C f2 k n2 mk2) (hn2 : args.length = n2) (ty : PySem.W.typeIn K (.ref f2) = some (.type "function")) (fn : PySem.W.fnIn K f2 = true) (hz : ∀ ws, (mk2 ws).length + stores.length ≤ 800) :
    InitOk P w K mg C f (k + 1) ps.length (fun vs => stores.foldl (fun a p => (p.1, p.2.val vs) :: a) (mk2 (args.map (Src.val vs)))) := by
  intro A s x t0 us vs R hd M hx hxk r hl hq
  refine init_enter F T hb S hf (by omega) M hx hxk r hl ?_
  intro s1 env e es sts p2 pos pl m so eg ed eo k0 M1 hx1 Ld hn hL hargs hst hso
  obtain ⟨cd, hc⟩ := clsIn_of S.o
  obtain ⟨hh, g, d, t, os⟩ := s1
  have I : PySem.W.InstAt hh x (excO C t0) C none := ⟨hx1, rfl, rfl, trivial⟩
  have X1 := M1.kin
  have hm := S.sup
  unfold PySem.W.ks_superIn at hm
  rw [hc] at hm
  obtain ⟨of, hof, hofc⟩ : ∃ of, hh.get? f2 = some of ∧ of.cls = .type "function" := by
    have ty' : (K.lookup f2).map (·.cls) = some (.type "function") := ty
    cases z : K.lookup f2 with
    | none =>
      rw [z] at ty'
      cases ty'
    | some of =>
      rw [z] at ty'
      exact ⟨of, X1 _ _ z, Option.some.inj ty'⟩
  refine PySem.ks_wpAny_getMethod_super hso (PySem.W.looks_opaque X1 S.st) (l₀ := cd.mro) (fun A Q E s kk q => wpAny_bind ((PySem.W.looks_clsIn X1 hc) A _ E s kk (wpAny_pure q))) rfl X1 hm hof hofc (PySem.W.ks_ne X1 I hc) (by decide) ?_
  have hpush : (hh.push (PySem.W.methodObj (.ref f2) (.ref x))).get? hh.objs.size = some (PySem.W.methodObj (.ref f2) (.ref x)) := Heap.get?_push_at rfl rfl
  have kp : ∀ b o, hh.get? b = some o → (hh.push (PySem.W.methodObj (.ref f2) (.ref x))).get? b = some o := fun b o z => Heap.get?_push_of_some _ z
  have M2 : L2.Mod K mg (hh.push (PySem.W.methodObj (.ref f2) (.ref x))) := mod_keep M1 kp
  have hx2 := kp _ _ hx1
  have hn2' := hn.keeps kp
  have hsp := fun (Q : List Value → Shared → Prop) => srcs_ok (M := model P w) (A := A.deeper env) (E := fun _ _ => False) (pos := pos) (s := ⟨hh.push (PySem.W.methodObj (.ref f2) (.ref x)), g, d, t + 1, os⟩) (Q := Q) Ld r hl.symm hargs hn2'
  have hpl := srcs_plain (env := env) (pos := pos) hargs
  have he : starEach (e :: es) env = (false, eval e env) :: starEach es env := by
    cases hargs with
    | cons h0 h1 =>
      cases h0
      · rfl
      · rfl
  rw [he] at hsp hpl ⊢
  have hpl2 : ((backTo pos ((false, eval e env) :: starEach es env)).any (·.1) || ([] : List (Option Str × Sem Value)).any (·.1.isNone)) = false := by
    rw [hpl]
    rfl
  refine PySem.W.callWith_of (P := PySem.W.MethP K hh.objs.size f2 (.ref x)) hpl2 (PySem.W.keeps_M fn) ?_
  refine Calls.evalArgs_plain (hsp _ fun ws tk rws => ⟨⟨hpush, M2.kin⟩, ?_⟩)
  show wpAny _ _ (call (.ref hh.objs.size) ws) _ _ _
  refine wpAny_call (PySem.ks_codeAny_call_bound hpush ?_)
  refine I2 (A.deeper env) ⟨hh.push (PySem.W.methodObj (.ref f2) (.ref x)), g, d, tk, os⟩ x t0 ws (args.map (Src.val vs)) _ (by show A.depth + 1 + 3 * k < _; omega) M2 hx2 hxk rws (by rw [List.length_map, hn2]) fun h3 tk3 dx D3 => ?_
  show wpAny _ _ (execs sts env) _ _ _
  refine stores_ok (h₀ := hh.push (PySem.W.methodObj (.ref f2) (.ref x))) (s := ⟨h3, g, d, tk3, os⟩) (fs := mk2 (args.map (Src.val vs))) S.o Ld r hl.symm hx2 hxk hn2' M2 hst hf D3 (hz _) fun h4 tk4 D4 => ⟨rfl, ?_⟩
  have sz : s.heap.objs.size ≤ (hh.push (PySem.W.methodObj (.ref f2) (.ref x))).objs.size := by
    have z1 : hh.objs.size < (hh.push (PySem.W.methodObj (.ref f2) (.ref x))).objs.size := Heap.lt_size hpush
    have z2 : env.locals < hh.objs.size := hn.lt
    exact Nat.le_trans hL (Nat.le_of_lt (Nat.lt_trans z2 z1))
  have fin := hq h4 tk4 dx ⟨fun b o hb z => D4.keep b o hb (kp b o (k0 b o z)), D4.obj, Nat.le_trans sz D4.big, D4.ne, D4.ns, D4.few⟩
  have e1 : g = s.gens := eg
  have e2 : d = s.drawn := ed
  have e3 : os = s.os := eo
  show R _ ⟨h4, g, d, tk4, os⟩
  rw [e1, e2, e3]
  exact fin
end
/-! ### the error is made -/
/-- x(..) makes an error of the class at C -/
structure ErrOk (P : Program) (w : World) (K : PySem.W.Frag) (mg : Str → Option Value) (x : Str) (C : Addr) (k n : Nat) (mk : List V → List (Str × V)) : Prop where
  o : OexC K C
  g : mg x = some (.ref C)
  i : ∃ fI, PySem.W.findIn K (.ref C) "__init__" = some (some (.ref fI)) ∧ PySem.W.typeIn K (.ref fI) = some (.type "function") ∧ InitOk P w K mg C fI k n mk
theorem pmk_err {X : Cx} {x : Str} {C : Addr} {k n : Nat} {mk : List V → List (Str × V)} {e : Expr} {es : List Expr} {ta : TA} {p pos : Pos} (T : ErrOk X.prog X.w X.K X.mg x C k n mk) (hr : X.A.depth + 3 * k + 1 < recursionLimit) (hg : Gl X x) (ha : PA X (e :: es) ta)
    (hdb : (x == ("__debug__" : Str)) = false := by decide) (he : starEach (e :: es) X.env = (false, eval e X.env) :: starEach es X.env := by rfl) (hpl : (backTo pos (starEach es X.env)).any (·.1) = false := by rfl) :
    L2N.PMk X (.Call (.Name x p) (e :: es) [] pos) (fun σ H Q => ta σ H fun vs H1 => vs.length = n ∧ vs.length ≤ 100 ∧ ∀ d, H1 d = none → Q (.ref C) (some d) (upd H1 d (.xd (mk vs)))) := by
  intro pins s σ H Q I h
  obtain ⟨fI, iC, tI, I0⟩ := T.i
  obtain ⟨nm, qn, N, bs, bm, sn, sub, ab, col, dd, k0, k1, k2, k3, k5, hC, hbm⟩ := T.o.cls
  refine wpAny_Call_Name_kw (ld_glob I hg T.g ?_ hdb)
  refine PySem.W.callWith_K (h₀ := X.base) I.ok.mod.kin T.o.kC (thn (ha.run pos pins s σ H _ I h) fun us s1 hh => ?_) he hpl
  obtain ⟨vs, H1, I1, r1, hn, hz, q1⟩ := hh
  refine ⟨I1.kIn, ?_⟩
  show wpAny _ _ (call (.ref C) us) _ _ _
  obtain ⟨hp, g, dr, tk, os⟩ := s1
  have Mb : L2.Mod X.K X.mg hp := mod_keep I1.ok.mod I1.bk
  have kk : ∀ b o, hp.get? b = some o → ((hp.push (PySem.W.kdv_tup us)).push (excO C hp.objs.size)).get? b = some o := fun b o z => Heap.get?_push_of_some _ (Heap.get?_push_of_some _ z)
  have hget : ((hp.push (PySem.W.kdv_tup us)).push (excO C hp.objs.size)).get? (hp.objs.size + 1) = some (excO C hp.objs.size) := by heap_get
  have hsz2 : hp.objs.size + 1 < ((hp.push (PySem.W.kdv_tup us)).push (excO C hp.objs.size)).objs.size := Heap.lt_size hget
  have hnx : X.K.lookup (hp.objs.size + 1) = none := by
    cases z : X.K.lookup (hp.objs.size + 1) with
    | none => rfl
    | some o =>
      have y : hp.get? (hp.objs.size + 1) = some o := Mb.kin _ _ z
      exact absurd (Nat.lt_of_succ_lt (Heap.lt_size y)) (Nat.lt_irrefl _)
  have hus : us.length ≤ sizeLine := by
    rw [← Paired.length r1, sizeLine_eq]
    omega
  refine wpAny_call (PySem.HandSPX.call_own PySem.F.excBase_ValueError (fun Y => PySem.HandSPX.refsVE_contains Y bm hbm) (Mb.kin _ _ hC) (PySem.W.looks_findIn Mb.kin iC) (fun self => PySem.W.bind_fn Mb.kin self tI) hus ?_)
  refine I0 _ ⟨(hp.push (PySem.W.kdv_tup us)).push (excO C hp.objs.size), g, dr, tk, os⟩ (hp.objs.size + 1) hp.objs.size us vs _ (by rw [make_depth]; omega) (mod_keep Mb kk) hget hnx r1 hn fun h' tk' dx D => ?_
  refine ⟨rfl, ?_⟩
  obtain ⟨t1, hoe⟩ := D.obj
  obtain ⟨mA, hns, rel⟩ := D.ns
  obtain ⟨G', g1, g2⟩ := restrict h' fun b => decide (b ≠ hp.objs.size + 1)
  have gk : ∀ b, b ≠ hp.objs.size + 1 → G'.get? b = h'.get? b := fun b hb => g1 b (decide_eq_true hb)
  have ge : G'.get? (hp.objs.size + 1) = none := g2 _ (by simp)
  have nb : ∀ {b o}, hp.get? b = some o → b ≠ hp.objs.size + 1 := fun {b o} z => Nat.ne_of_lt (Nat.lt_succ_of_lt (Heap.lt_size z))
  have old : ∀ b o, hp.get? b = some o → G'.get? b = some o := fun b o z => (gk b (nb z)).trans (D.keep b o (nb z) (kk b o z))
  have hbig : hp.objs.size ≤ dx := Nat.le_trans (Nat.le_of_lt (Nat.lt_trans (Nat.lt_succ_self _) hsz2)) D.big
  have ob : ObjOk X.prog X.w (upd H1 dx (.xd (mk vs))) G' dx (.xd (mk vs)) := ⟨mA, hns.at (fun o z => (gk dx D.ne).trans z), rel⟩
  have J : Inv X pins σ (upd H1 dx (.xd (mk vs))) ⟨G', g, dr, tk', os⟩ := I1.laid (t' := tk') old hbig ob
  refine ⟨hp.objs.size + 1, _, _, ⟨G', g, dr, tk', os⟩, _, .ref C, some dx, rfl, J, fun b o z => ?_, ge, hoe, ⟨rfl, rfl, fun vs hv => by cases hv; rfl⟩, rfl, rfl, ?_, rfl, I1.bare, raises_own T.o.exC T.o.tyC, q1 dx (I1.hok.fresh hbig)⟩
  · have z' : G'.get? b = some o := z
    by_cases hb : b = hp.objs.size + 1
    · rw [hb, ge] at z'
      cases z'
    · exact (gk b hb).symm.trans z'
  · rw [upd_ne D.ne.symm]
    exact I1.hok.fresh (Nat.le_succ _)
end Z

/-! Z1: readings that compute, and their rules -/
namespace Z
open PySem PySem.Spec PyProof.Rows L2
abbrev St := L2.St
/-! ### the context of a body -/
structure Cz (m : Bool) (X : Cx) (W : WX) (k : Nat) : Prop where
  md : (m = true ∧ X.calm = true ∧ Room k X.A) ∨ (m = false ∧ L2H.HotC X ∧ L2H.RoomH k X.A)
  tk : L2N.Takes X W
  own : PassesOwn (model X.prog X.w) X.A X.env X.xe
  stk : X.stack = X.env :: X.outer
  frm : X.env.frame = some X.env.locals
theorem Cz.mono {m : Bool} {X : Cx} {W : WX} {j k : Nat} (c : Cz m X W k) (h : j ≤ k) : Cz m X W j := by
  refine ⟨?_, c.tk, c.own, c.stk, c.frm⟩
  rcases c.md with ⟨a, b, r⟩ | ⟨a, b, r⟩
  · exact .inl ⟨a, b, r.mono h⟩
  · exact .inr ⟨a, b, r.mono h⟩
theorem Cz.calm {X : Cx} {W : WX} {k : Nat} (c : Cz true X W k) : X.calm = true := by
  rcases c.md with ⟨_, b, _⟩ | ⟨a, _⟩
  · exact b
  · cases a
theorem Cz.room {X : Cx} {W : WX} {k : Nat} (c : Cz true X W k) : Room k X.A := by
  rcases c.md with ⟨_, _, r⟩ | ⟨a, _⟩
  · exact r
  · cases a
theorem Cz.hot {X : Cx} {W : WX} {k : Nat} (c : Cz false X W k) : L2H.HotC X ∧ L2H.RoomH k X.A := by
  rcases c.md with ⟨a, _⟩ | ⟨_, b, r⟩
  · cases a
  · exact ⟨b, r⟩
theorem Cz.dp {m : Bool} {X : Cx} {W : WX} {k : Nat} (c : Cz m X W k) : X.A.depth + 3 * k + 5 < recursionLimit := by
  rcases c.md with ⟨_, _, r⟩ | ⟨_, _, r⟩
  · exact r.dp
  · exact r.dp
theorem Cz.un {m : Bool} {X : Cx} {W : WX} {k : Nat} (c : Cz m X W k) : X.A.units + 16 * k + 200 < cLine := by
  rcases c.md with ⟨_, _, r⟩ | ⟨_, _, r⟩
  · exact r.un
  · exact r.un
theorem Cz.hu {m : Bool} {X : Cx} {W : WX} {k : Nat} (c : Cz m X W k) : X.A.units + 64 < cLine := by
  have := c.un
  omega
/-- what an expression asks of its context -/
structure Ce (m : Bool) (X : Cx) (W : WX) (k : Nat) : Prop where
  md : (m = true ∧ X.calm = true ∧ Room k X.A) ∨ (m = false ∧ L2H.HotC X ∧ L2H.RoomH k X.A)
  tk : L2N.Takes X W
theorem Cz.e {m : Bool} {X : Cx} {W : WX} {k : Nat} (c : Cz m X W k) : Ce m X W k := ⟨c.md, c.tk⟩
theorem Ce.calm {X : Cx} {W : WX} {k : Nat} (c : Ce true X W k) : X.calm = true := by
  rcases c.md with ⟨_, b, _⟩ | ⟨a, _⟩
  · exact b
  · cases a
theorem Ce.room {X : Cx} {W : WX} {k : Nat} (c : Ce true X W k) : Room k X.A := by
  rcases c.md with ⟨_, _, r⟩ | ⟨a, _⟩
  · exact r
  · cases a
theorem Ce.hot {X : Cx} {W : WX} {k : Nat} (c : Ce false X W k) : L2H.HotC X ∧ L2H.RoomH k X.A := by
  rcases c.md with ⟨a, _⟩ | ⟨_, b, r⟩
  · cases a
  · exact ⟨b, r⟩
theorem Ce.blk {X : Cx} {W : WX} {k : Nat} (c : Ce true X W k) (s : Shared) (H : Hp) (scope : Scope) (ce : Env) (fp : List Addr) : Ce true (X.blk s H scope ce fp) (fun _ _ _ _ => False) k := by
  refine ⟨.inl ⟨rfl, c.calm, c.room⟩, fun _ _ z => ?_⟩
  obtain ⟨_, _, _, _, _, _, _, _, _, _, _, _, _, _, _, _, w⟩ := z
  exact w.elim
/-- a def's promise, in quiet (true) or while an error is handled (false) -/
def Fn (m : Bool) (P : Program) (w : World) (K : PySem.W.Frag) (mg : Str → Option Value) (base : Heap) (k : Nat) (f : Addr) (fd : FuncData) (ps : List Str) (sp : Sp) : Prop := match m with
  | true => FnOk P w K mg base (L2N.CX P w) k f fd ps sp
  | false => L2H.FnH P w K mg base (L2N.CX P w) k f fd ps sp
theorem Fn.mono {m : Bool} {P : Program} {w : World} {K : PySem.W.Frag} {mg : Str → Option Value} {base : Heap} {j k : Nat} {f : Addr} {fd : FuncData} {ps : List Str} {sp : Sp} (F : Fn m P w K mg base j f fd ps sp) (h : j ≤ k) : Fn m P w K mg base k f fd ps sp := by
  cases m with
  | true => exact FnOk.mono F h
  | false =>
    have F' : L2H.FnH P w K mg base (L2N.CX P w) j f fd ps sp := F
    exact ⟨F'.len, fun A o s H a us vs Q E p r => F'.run A o s H a us vs Q E p (r.mono h)⟩
/-- the context of a def's body -/
def bodyCx (m : Bool) (P : Program) (w : World) (K : PySem.W.Frag) (mg : Str → Option Value) (base : Heap) (N : List Str) (qual : Str) (scope : Scope) (f : Addr) (cd : Value) (A : Around) (outer : List Env) (s : Shared) (H : Hp) (E : XK) (pn : List (Addr × Obj)) : Cx :=
  { cxOf (L2N.CX P w) P w K mg base N qual scope f cd A outer s H E with calm := m, pn := pn }
section
variable {P : Program} {w : World} {K : PySem.W.Frag} {mg : Str → Option Value} {base : Heap}
/-- THE RULE: a def by its body -/
theorem fn_mk {m : Bool} {x qual : Str} {params : Arguments} {body : List Stmt} {scope : Scope} {dvs : List V} {kws : List (Str × V)} {f : Addr} {fd : FuncData} {N ps : List Str} {k : Nat} {sp : Sp} (F : FunD K x qual params body scope dvs kws f fd) (S : FnScope N ps scope)
    (len : ∀ vs H Q E, sp vs H Q E → vs.length = ps.length)
    (hbody : ∀ (cdv : Value) (A : Around) (outer : List Env) (s : Shared) (H : Hp) (vs : List V) (Q : VK) (E : XK) (pn : List (Addr × Obj)), Cz m (bodyCx m P w K mg base N qual scope f cdv A outer s H E pn) (fun cls d _ H => E cls d H) k → sp vs H Q E →
      ∃ t, PSs (bodyCx m P w K mg base N qual scope f cdv A outer s H E pn) body t ∧ t { nx := fun _ H' => Q .non H', rt := Q } (start N vs) H) : Fn m P w K mg base (k + 1) f fd ps sp := by
  obtain ⟨oc, od, dV, kV, doc, pm, an, cdv, ct, osl, rfl, lk, hcd, _, _⟩ := F.ex
  cases m with
  | true =>
    refine fn_of lk hcd S len fun A outer s H vs Q E hr hsp => ?_
    exact hbody cdv A outer s H vs Q E [] ⟨.inl ⟨rfl, rfl, hr⟩, L2N.takes_of rfl rfl rfl rfl, passes_of rfl, rfl, rfl⟩ hsp
  | false =>
    refine L2H.fn_ofH lk hcd S len fun A outer s H vs Q E p hot hr hsp => ?_
    exact hbody cdv A outer s H vs Q E [p] ⟨.inr ⟨rfl, ⟨p, hot, List.mem_singleton.mpr rfl⟩, hr⟩, L2N.takes_of rfl rfl rfl rfl, passes_of rfl, rfl, rfl⟩ hsp
end
/-- a def that is called by its module name, without defaults -/
structure GFn (m : Bool) (P : Program) (w : World) (K : PySem.W.Frag) (mg : Str → Option Value) (base : Heap) (k : Nat) (x : Str) (ps : List Str) (sp : Sp) : Prop where
  ex : ∃ f fd, Fn m P w K mg base k f fd ps sp ∧ mg x = some (.ref f) ∧ PySem.W.keepIn K (.ref f) = true ∧ Binds K fd ps []
/-! ### readings -/
def zvO : Option V → (V → Prop) → Prop
  | some v, Q => Q v
  | none, _ => False
def zv : St → Nat → (V → Prop) → Prop
  | [], _, _ => False
  | o :: _, 0, Q => zvO o Q
  | _ :: r, n + 1, Q => zv r n Q
theorem zvO_iff {o : Option V} {Q : V → Prop} : zvO o Q ↔ ∃ v, o = some v ∧ Q v := by
  cases o with
  | none => simp [zvO]
  | some v => simp [zvO]
theorem zv_iff : ∀ {σ : St} {i : Nat} {Q : V → Prop}, zv σ i Q ↔ ∃ v, σ[i]? = some (some v) ∧ Q v
  | [], i, Q => by simp [zv]
  | o :: r, 0, Q => by
    show zvO o Q ↔ _
    rw [zvO_iff]
    simp
  | o :: r, n + 1, Q => by
    show zv r n Q ↔ _
    rw [zv_iff]
    simp
def zVar (i : Nat) : TE := fun σ H Q => zv σ i fun v => Q v H
theorem zVar_eq (i : Nat) : zVar i = tVar i := by
  funext σ H Q
  exact propext zv_iff
def zs : St → Nat → V → (St → Prop) → Prop
  | [], _, _, k => k []
  | _ :: r, 0, v, k => k (some v :: r)
  | o :: r, n + 1, v, k => zs r n v fun r' => k (o :: r')
theorem zs_eq : ∀ {σ : St} {i : Nat} {v : V} {k : St → Prop}, zs σ i v k = k (σ.set i (some v))
  | [], _, _, _ => rfl
  | _ :: _, 0, _, _ => rfl
  | o :: r, n + 1, v, k => by
    show zs r n v _ = _
    rw [zs_eq]
    rfl
def zN (i : Nat) : TG := fun v σ H Q => zs σ i v fun σ' => Q σ' H
theorem zN_eq (i : Nat) : zN i = gName i := by
  funext v σ H Q
  exact zs_eq
def onB (Q : Bool → Hp → Prop) (x : V) (H : Hp) : Prop := match x with
  | .bl c => Q c H
  | _ => False
theorem onB_eq {Q : Bool → Hp → Prop} {x : V} {H : Hp} : onB Q x H = ∃ c, x = .bl c ∧ Q c H := by
  refine propext ⟨fun h => ?_, fun ⟨c, e, q⟩ => by rw [e]; exact q⟩
  cases x with
  | bl c => exact ⟨c, rfl, h⟩
  | _ => exact h.elim
def zTest (t : TE) : TT := fun σ H Q => t σ H (onB Q)
theorem zTest_eq (t : TE) : zTest t = tTest t := by
  funext σ H Q
  exact congrArg (t σ H) (funext fun x => funext fun H1 => onB_eq)
def zAnd (t u : TT) : TT := fun σ H Q => t σ H fun c H1 => ZIf (c = true) (u σ H1 Q) (Q false H1)
def zOr (t u : TT) : TT := fun σ H Q => t σ H fun c H1 => ZIf (c = true) (Q true H1) (u σ H1 Q)
theorem zAnd_eq (t u : TT) : zAnd t u = tAnd t u := by
  funext σ H Q
  exact congrArg (t σ H) (funext fun c => funext fun H1 => zif_iff)
theorem zOr_eq (t u : TT) : zOr t u = tOr t u := by
  funext σ H Q
  exact congrArg (t σ H) (funext fun c => funext fun H1 => zif_iff)
def zAndV (ta tb : TE) : TE := fun σ H Q => ta σ H (onB fun c H1 => ZIf (c = true) (tb σ H1 Q) (Q (.bl false) H1))
def zOrV (ta tb : TE) : TE := fun σ H Q => ta σ H (onB fun c H1 => ZIf (c = true) (Q (.bl true) H1) (tb σ H1 Q))
def zNotV (ta : TE) : TE := fun σ H Q => ta σ H (onB fun c H1 => Q (.bl (!c)) H1)
theorem zAndV_eq (ta tb : TE) : zAndV ta tb = tAndV ta tb := by
  funext σ H Q
  refine congrArg (ta σ H) (funext fun x => funext fun H1 => ?_)
  rw [onB_eq]
  exact congrArg Exists (funext fun c => congrArg (And _) zif_iff)
theorem zOrV_eq (ta tb : TE) : zOrV ta tb = tOrV ta tb := by
  funext σ H Q
  refine congrArg (ta σ H) (funext fun x => funext fun H1 => ?_)
  rw [onB_eq]
  exact congrArg Exists (funext fun c => congrArg (And _) zif_iff)
theorem zNotV_eq (ta : TE) : zNotV ta = tNotV ta := by
  funext σ H Q
  exact congrArg (ta σ H) (funext fun x => funext fun H1 => onB_eq)
def zIfE (c : TT) (ta tb : TE) : TE := fun σ H Q => c σ H fun b H1 => ZIf (b = true) (ta σ H1 Q) (tb σ H1 Q)
theorem zIfE_eq (c : TT) (ta tb : TE) : zIfE c ta tb = tIf c ta tb := by
  funext σ H Q
  exact congrArg (c σ H) (funext fun b => funext fun H1 => zif_iff)
def zIfS (c : TT) (t u : TS) : TS := fun D σ H => c σ H fun b H1 => ZIf (b = true) (t D σ H1) (u D σ H1)
theorem zIfS_eq (c : TT) (t u : TS) : zIfS c t u = tIfS c t u := by
  funext D σ H
  exact congrArg (c σ H) (funext fun b => funext fun H1 => zif_iff)
theorem znew_eq {H : Hp} {o : HO} {Q : VK} : ZNew H o (fun p H' => Q (.ref p) H') = ∀ p, H p = none → Q (.ref p) (upd H p o) := propext ⟨fun h => h.out, fun h => ⟨h⟩⟩
theorem zside_eq {a b : Prop} : ZSide a b = (a ∧ b) := propext ⟨fun h => ⟨h.c, h.a⟩, fun h => ⟨h.1, h.2⟩⟩
def zLst (t : TA) : TE := fun σ H Q => t σ H fun xs H1 => ZSide (xs.length ≤ sizeLine) (ZNew H1 (.lst xs) fun p H' => Q (.ref p) H')
def zTup (t : TA) : TE := fun σ H Q => t σ H fun xs H1 => ZSide (xs.length ≤ sizeLine) (ZNew H1 (.tup xs) fun p H' => Q (.ref p) H')
theorem zLst_eq (t : TA) : zLst t = tLst t := by
  funext σ H Q
  refine congrArg (t σ H) (funext fun xs => funext fun H1 => ?_)
  rw [zside_eq, znew_eq]
theorem zTup_eq (t : TA) : zTup t = tTup t := by
  funext σ H Q
  refine congrArg (t σ H) (funext fun xs => funext fun H1 => ?_)
  rw [zside_eq, znew_eq]
def zPart (t : TE) : TO := fun σ H Q => t σ H fun x H1 => match x with
  | .int i => Q (some i) H1
  | _ => False
theorem zPart_eq (t : TE) : zPart t = tPart t := by
  funext σ H Q
  refine congrArg (t σ H) (funext fun x => funext fun H1 => propext ⟨fun h => ?_, fun ⟨i, e, q⟩ => by rw [e]; exact q⟩)
  cases x with
  | int i => exact ⟨i, rfl, h⟩
  | _ => exact h.elim
def zCall (sp : Sp) (W : WX) (t : TA) : TE := fun σ H Q => t σ H fun vs H1 => ZCall sp vs H1 Q (fun cls d H' => W cls d σ H')
theorem zCall_eq (sp : Sp) (W : WX) (t : TA) : zCall sp W t = tCallS sp (WE W) t := by
  funext σ H Q
  exact congrArg (t σ H) (funext fun vs => funext fun H1 => propext ⟨fun h => h.out, fun h => ⟨h⟩⟩)
/-- truth of a value -/
def zTru (K : PySem.W.Frag) (x : V) (H : Hp) (Q : Bool → Hp → Prop) : Prop := match x with
  | .non => Q false H
  | .bl b => Q b H
  | .int i => Q (i != 0) H
  | .str y => ZSide (y.length ≤ sizeLine) (Q ((y.length : Int) != 0) H)
  | .ref p => ZSq K H p fun _ xs => Q (!xs.isEmpty) H
  | _ => False
def zT (K : PySem.W.Frag) (t : TE) : TT := fun σ H Q => t σ H fun x H1 => zTru K x H1 Q
/-! ### operators -/
def zAdd : R2 := fun x y H Q => match x, y with
  | .int i, .int j => Q (.int (i + j)) H
  | .str a, .str b => ZSide (a.length + b.length ≤ sizeLine) (Q (.str (a ++ b)) H)
  | .ref a, .ref b => ZGet H a fun o => match o with
    | .lst xs => ZGet H b fun u => match u with
      | .lst zs => ZSide (xs.length + zs.length ≤ sizeLine) (ZNew H (.lst (xs ++ zs)) fun p H' => Q (.ref p) H')
      | _ => False
    | _ => False
  | _, _ => False
def zInt (g : Int → Int → V) : R2 := fun x y H Q => match x, y with
  | .int i, .int j => Q (g i j) H
  | _, _ => False
def zIntC (C : Int → Int → Prop) (g : Int → Int → V) : R2 := fun x y H Q => match x, y with
  | .int i, .int j => ZSide (C i j) (Q (g i j) H)
  | _, _ => False
theorem OpR.imp {X : Cx} {f : Value → Value → Sem Value} {r r' : R2} (h : OpR X f r) (i : ∀ x y H Q, r' x y H Q → r x y H Q) : OpR X f r' := fun pins s σ H x y v u Q I rx ry q => h pins s σ H x y v u Q I rx ry (i x y H Q q)
theorem zInt_imp {g : Int → Int → V} : ∀ x y H Q, zInt g x y H Q → rI0 g x y H Q := fun x y H Q q => by
  cases x with
  | int i => cases y with
    | int j => exact ⟨i, j, rfl, rfl, q⟩
    | _ => exact q.elim
  | _ => exact q.elim
theorem zIntC_imp {C : Int → Int → Prop} {g : Int → Int → V} : ∀ x y H Q, zIntC C g x y H Q → rI C g x y H Q := fun x y H Q q => by
  cases x with
  | int i => cases y with
    | int j => exact ⟨i, j, rfl, rfl, ZSide.c q, ZSide.a q⟩
    | _ => exact q.elim
  | _ => exact q.elim
theorem zAdd_ok {X : Cx} : OpR X (binaryOp .Add) zAdd := OpR.imp (op_add.or (op_add_str.or op_cat)) fun x y H Q q => by
  cases x with
  | int i => cases y with
    | int j => exact .inl ⟨i, j, rfl, rfl, q⟩
    | _ => exact q.elim
  | str a => cases y with
    | str b => exact .inr (.inl ⟨a, b, rfl, rfl, ZSide.c q, ZSide.a q⟩)
    | _ => exact q.elim
  | ref a => cases y with
    | ref b =>
      obtain ⟨o, e1, q⟩ := ZGet.out q
      cases o with
      | lst xs =>
        obtain ⟨u, e2, q⟩ := ZGet.out q
        cases u with
        | lst zs => exact .inr (.inr ⟨a, b, xs, zs, rfl, rfl, e1, e2, ZSide.c q, (ZSide.a q).out⟩)
        | _ => exact q.elim
      | _ => exact q.elim
    | _ => exact q.elim
  | _ => exact q.elim
/-- == of two scalars -/
def zEqV : V → V → (Bool → Prop) → Prop := fun x y Q => match x, y with
  | .int i, .int j => Q (decide (i = j))
  | .str a, .str b => Q (decide (a = b))
  | .bl a, .bl b => Q (decide (a = b))
  | .non, .non => Q true
  | .int _, .str _ => Q false
  | .str _, .int _ => Q false
  | .non, .int _ => Q false
  | .int _, .non => Q false
  | _, _ => False
def zEq : R2 := fun x y H Q => zEqV x y fun b => Q (.bl b) H
def zNe : R2 := fun x y H Q => zEqV x y fun b => Q (.bl (!b)) H
theorem zEqV_ok {x y : V} {Q : Bool → Prop} (h : zEqV x y Q) : scal x y = true ∧ Q (decide (x = y)) := by
  cases x <;> cases y <;> first | exact h.elim | skip
  all_goals first
    | (refine ⟨rfl, ?_⟩; simpa [zEqV] using h)
theorem zEq_ok {X : Cx} : OpR X (compareOp .Eq) zEq := OpR.imp op_eq fun _ _ _ _ q => zEqV_ok q
theorem zNe_ok {X : Cx} : OpR X (compareOp .NotEq) zNe := OpR.imp op_ne fun _ _ _ _ q => zEqV_ok q
def zLt : R2 := zInt fun i j => .bl (decide (i < j))
def zLe : R2 := zInt fun i j => .bl (decide (i ≤ j))
def zGt : R2 := zInt fun i j => .bl (decide (j < i))
def zGe : R2 := zInt fun i j => .bl (decide (j ≤ i))
def zIsN : R2 := fun x y H Q => match y with
  | .non => match x with
    | .non => Q (.bl true) H
    | _ => Q (.bl false) H
  | _ => False
def zIsNN : R2 := fun x y H Q => match y with
  | .non => match x with
    | .non => Q (.bl false) H
    | _ => Q (.bl true) H
  | _ => False
theorem zIsN_ok {X : Cx} : OpR X (compareOp .Is) zIsN := OpR.imp op_isN fun x y H Q q => by
  cases y with
  | non => cases x <;> exact ⟨rfl, q⟩
  | _ => exact q.elim
theorem zIsNN_ok {X : Cx} : OpR X (compareOp .IsNot) zIsNN := OpR.imp op_notN fun x y H Q q => by
  cases y with
  | non => cases x <;> exact ⟨rfl, q⟩
  | _ => exact q.elim
/-- there is an x with P x, and R x -/
structure ZEx {α : Type} (P : α → Prop) (R : α → Prop) : Prop where
  out : ∃ x, P x ∧ R x
/-- c in z, c one sign -/
def zInC (neg : Bool) : R2 := fun x y H Q => match x, y with
  | .str a, .str z => ZEx (fun c : Nat => a = ⟨#[c]⟩) fun c => Q (.bl (match neg with | true => !decide (c ∈ z.cps.toList) | false => decide (c ∈ z.cps.toList))) H
  | _, _ => False
/-- x in a list or tuple of flat values -/
def zInL (K : PySem.W.Frag) (neg : Bool) : R2 := fun x y H Q => match y with
  | .ref p => ZSq K H p fun _ xs => ZSide (flatV x = true ∧ xs.all flatV = true) (Q (.bl (match neg with | true => !inV x xs | false => inV x xs)) H)
  | _ => False
theorem zInC_ok {X : Cx} : OpR X (compareOp .In) (zInC false) := OpR.imp op_in_sign fun x y H Q q => by
  cases x with
  | str a => cases y with
    | str z =>
      obtain ⟨c, e, q⟩ := ZEx.out q
      rw [e]
      exact ⟨c, z, rfl, rfl, q⟩
    | _ => exact q.elim
  | _ => exact q.elim
theorem zNotInC_ok {X : Cx} : OpR X (compareOp .NotIn) (zInC true) := OpR.imp op_notIn_sign fun x y H Q q => by
  cases x with
  | str a => cases y with
    | str z =>
      obtain ⟨c, e, q⟩ := ZEx.out q
      rw [e]
      exact ⟨c, z, rfl, rfl, q⟩
    | _ => exact q.elim
  | _ => exact q.elim
theorem zsq_or {K : PySem.W.Frag} {H : Hp} {a : Addr} {R : Bool → List V → Prop} (h : ZSq K H a R) : ∃ xs, (SqL K H a xs ∧ R true xs) ∨ (SqT K H a xs ∧ R false xs) := by
  obtain ⟨b, xs, q, r⟩ := h.out
  cases b with
  | true => exact ⟨xs, .inl ⟨q, r⟩⟩
  | false => exact ⟨xs, .inr ⟨q, r⟩⟩
theorem zInL_ok {X : Cx} : OpR X (compareOp .In) (zInL X.K false) := OpR.imp op_in_seq fun x y H Q q => by
  cases y with
  | ref p =>
    obtain ⟨xs, ⟨a, q⟩ | ⟨a, q⟩⟩ := zsq_or q
    · exact ⟨p, xs, rfl, .inl a, q.c.1, q.c.2, q.a⟩
    · exact ⟨p, xs, rfl, .inr a, q.c.1, q.c.2, q.a⟩
  | _ => exact q.elim
theorem zNotInL_ok {X : Cx} : OpR X (compareOp .NotIn) (zInL X.K true) := OpR.imp op_notIn_seq fun x y H Q q => by
  cases y with
  | ref p =>
    obtain ⟨xs, ⟨a, q⟩ | ⟨a, q⟩⟩ := zsq_or q
    · exact ⟨p, xs, rfl, .inl a, q.c.1, q.c.2, q.a⟩
    · exact ⟨p, xs, rfl, .inr a, q.c.1, q.c.2, q.a⟩
  | _ => exact q.elim
def zNeg : V → Hp → VK → Prop := fun x H Q => match x with
  | .int i => Q (.int (-i)) H
  | _ => False
theorem zNeg_ok {X : Cx} : UnR X (unaryOp .USub) zNeg := fun pins s σ H x v Q I r q => un_neg pins s σ H x v Q I r (by
  cases x with
  | int i => exact ⟨i, rfl, q⟩
  | _ => exact q.elim)
/-! ### items -/
def zIx (K : PySem.W.Frag) : R2 := fun x y H Q => match x, y with
  | .ref p, .int i => ZSq K H p fun _ xs => ZAt xs i fun v => Q v H
  | .str z, .int i => ZSide (z.length ≤ sizeLine) (ZAt z.cps.toList i fun c => Q (.str ⟨#[c]⟩) H)
  | _, _ => False
theorem zIx_ok {X : Cx} : IxR X (zIx X.K) := fun value slice pins s σ H x y v u Q I rx ry q hs => ix_seq value slice pins s σ H x y v u Q I rx ry (by
  cases x with
  | ref p => cases y with
    | int i =>
      obtain ⟨xs, ⟨a, q⟩ | ⟨a, q⟩⟩ := zsq_or q
      · obtain ⟨v, e, q⟩ := q.out
        exact .inl ⟨p, xs, i, v, rfl, rfl, a, e, q⟩
      · obtain ⟨v, e, q⟩ := q.out
        exact .inr (.inl ⟨p, xs, i, v, rfl, rfl, a, e, q⟩)
    | _ => exact q.elim
  | str z => cases y with
    | int i =>
      obtain ⟨v, e, q2⟩ := (ZSide.a q).out
      exact .inr (.inr ⟨z, i, v, rfl, rfl, ZSide.c q, e, q2⟩)
    | _ => exact q.elim
  | _ => exact q.elim) hs
def zSlc (K : PySem.W.Frag) : V → Option Int → Option Int → Hp → VK → Prop := fun x lo hi H Q => match x with
  | .str z => ZSide (z.length ≤ sizeLine) (Q (.str (cutS z lo hi)) H)
  | .ref a => ZSq K H a fun b xs => match b with
    | true => ZNew H (.lst (cutV xs lo hi)) fun p H' => Q (.ref p) H'
    | false => ZSide (¬ (HT.sIx xs.length 0 lo = 0 ∧ HT.sIx xs.length xs.length hi = xs.length)) (ZNew H (.tup (cutV xs lo hi)) fun p H' => Q (.ref p) H')
  | _ => False
theorem zSlc_ok {X : Cx} : L2.SlR X (zSlc X.K) := fun pins s σ H x v vl vu lo hi sl Q I rx hs pl pu q => (L2.SlR.or sl_list (L2.SlR.or sl_str sl_tup)) pins s σ H x v vl vu lo hi sl Q I rx hs pl pu (by
  cases x with
  | str z => exact .inr (.inl ⟨z, rfl, ZSide.c q, ZSide.a q⟩)
  | ref a =>
    obtain ⟨xs, ⟨e, q⟩ | ⟨e, q⟩⟩ := zsq_or q
    · exact .inl ⟨a, xs, rfl, e, q.out⟩
    · exact .inr (.inr ⟨a, xs, rfl, e, ZSide.c q, (ZSide.a q).out⟩)
  | _ => exact q.elim)
def zSetL : V → V → V → Hp → (Hp → Prop) → Prop := fun o i v H Q => match o, i with
  | .ref p, .int k => ZGet H p fun u => match u with
    | .lst xs => ZEx (fun j => ixN xs.length k = some j) fun j => ZSet H p (.lst (xs.set j v)) Q
    | _ => False
  | _, _ => False
theorem zSetL_ok {X : Cx} : PSet X zSetL := fun pins s σ H o i v ov iv u Q I ro ri rv q => set_list pins s σ H o i v ov iv u Q I ro ri rv (by
  cases o with
  | ref p => cases i with
    | int k =>
      obtain ⟨w, e, q⟩ := ZGet.out q
      cases w with
      | lst xs =>
        obtain ⟨j, ej, q⟩ := ZEx.out q
        exact ⟨p, xs, k, j, rfl, rfl, e, ej, q.out⟩
      | _ => exact q.elim
    | _ => exact q.elim
  | _ => exact q.elim)
/-! ### built-in functions -/
def zLen (K : PySem.W.Frag) : List V → Hp → VK → Prop := fun xs H Q => match xs with
  | [.str z] => ZSide (z.length ≤ sizeLine) (Q (.int z.length) H)
  | [.ref p] => ZSq K H p fun _ ys => Q (.int ys.length) H
  | _ => False
theorem CallR.or {X : Cx} {f : Value} {r r' : List V → Hp → VK → Prop} (h : CallR X f r) (h' : CallR X f r') : CallR X f (fun xs H Q => r xs H Q ∨ r' xs H Q) := fun pins s σ H xs us Q I rx q => q.elim (h pins s σ H xs us Q I rx) (h' pins s σ H xs us Q I rx)
theorem CallR.imp {X : Cx} {f : Value} {r r' : List V → Hp → VK → Prop} (h : CallR X f r) (i : ∀ xs H Q, r' xs H Q → r xs H Q) : CallR X f r' := fun pins s σ H xs us Q I rx q => h pins s σ H xs us Q I rx (i xs H Q q)
theorem zLen_ok {X : Cx} : CallR X (.builtin "len") (zLen X.K) := CallR.imp (CallR.or call_len_str call_len_seq) fun xs H Q q => by
  unfold zLen at q
  split at q
  · rename_i z
    exact .inl ⟨z, rfl, q.c, q.a⟩
  · rename_i p
    obtain ⟨ys, ⟨e, q⟩ | ⟨e, q⟩⟩ := zsq_or q
    · exact .inr ⟨p, ys, rfl, .inl e, q⟩
    · exact .inr ⟨p, ys, rfl, .inr e, q⟩
  · exact q.elim
def zIntF : List V → Hp → VK → Prop := fun xs H Q => match xs with
  | [.int i] => Q (.int i) H
  | [.str a] => ZEx (fun n : Int => PySem.intText? a = some n ∧ a.length ≤ 640) fun n => Q (.int n) H
  | _ => False
theorem zIntF_ok {X : Cx} : CallR X (.type "int") zIntF := CallR.imp (CallR.or call_int1 call_int_str) fun xs H Q q => by
  unfold zIntF at q
  split at q
  · rename_i i
    exact .inl (.inl ⟨i, rfl, q⟩)
  · rename_i a
    obtain ⟨n, ⟨e, l⟩, q⟩ := q.out
    exact .inr ⟨a, n, rfl, e, l, q⟩
  · exact q.elim
def zStrF : List V → Hp → VK → Prop := fun xs H Q => match xs with
  | [.int i] => ZSide (i.natAbs.log2 < 1920) (Q (.str (toString i)) H)
  | _ => False
theorem zStrF_ok {X : Cx} : CallR X (.type "str") zStrF := CallR.imp call_str_int fun xs H Q q => by
  unfold zStrF at q
  split at q
  · rename_i i
    exact ⟨i, rfl, q.c, q.a⟩
  · exact q.elim
def zListF (K : PySem.W.Frag) : List V → Hp → VK → Prop := fun xs H Q => match xs with
  | [.ref p] => ZSq K H p fun _ ys => ZNew H (.lst ys) fun l H' => Q (.ref l) H'
  | _ => False
theorem zListF_ok {X : Cx} : CallR X (.type "list") (zListF X.K) := CallR.imp call_list_of fun xs H Q q => by
  unfold zListF at q
  split at q
  · rename_i p
    obtain ⟨ys, ⟨e, q⟩ | ⟨e, q⟩⟩ := zsq_or q
    · exact ⟨p, ys, rfl, .inl e, q.out⟩
    · exact ⟨p, ys, rfl, .inr e, q.out⟩
  · exact q.elim
def zMin2 : List V → Hp → VK → Prop := fun xs H Q => match xs with
  | [.int i, .int j] => Q (.int (if j < i then j else i)) H
  | _ => False
def zMax2 : List V → Hp → VK → Prop := fun xs H Q => match xs with
  | [.int i, .int j] => Q (.int (if j > i then j else i)) H
  | _ => False
theorem zMin2_ok {X : Cx} (hc : X.calm = true) : CallR X (.builtin "min") zMin2 := CallR.imp (call_min2 hc) fun xs H Q q => by
  unfold zMin2 at q
  split at q
  · exact ⟨_, _, rfl, q⟩
  · exact q.elim
theorem zMax2_ok {X : Cx} (hc : X.calm = true) : CallR X (.builtin "max") zMax2 := CallR.imp (call_max2 hc) fun xs H Q q => by
  unfold zMax2 at q
  split at q
  · exact ⟨_, _, rfl, q⟩
  · exact q.elim
def zAbs : List V → Hp → VK → Prop := fun xs H Q => match xs with
  | [.int i] => Q (.int (if i < 0 then -i else i)) H
  | _ => False
theorem zAbs_ok {X : Cx} : CallR X (.builtin "abs") zAbs := CallR.imp call_abs fun xs H Q q => by
  unfold zAbs at q
  split at q
  · exact ⟨_, rfl, q⟩
  · exact q.elim
/-- isinstance(x, T), T one of the built-in types; the type of x is told by P -/
structure ZIsi (K : PySem.W.Frag) (x : V) (H : Hp) (c : V) (R : Bool → Prop) : Prop where
  out : ∃ t u b, ClsV c u ∧ TyX K H x t ∧ PySem.W.kitOne K t u = some b ∧ R b
def zIsi (K : PySem.W.Frag) : List V → Hp → VK → Prop := fun xs H Q => match xs with
  | [x, c] => ZIsi K x H c fun b => Q (.bl b) H
  | _ => False
theorem zIsi_ok {X : Cx} : CallR X (.builtin "isinstance") (zIsi X.K) := CallR.imp call_isi fun xs H Q q => by
  unfold zIsi at q
  split at q
  · rename_i x c
    obtain ⟨t, u, b, h1, h2, h3, h4⟩ := q.out
    exact ⟨x, c, t, u, b, rfl, h1, h2, h3, h4⟩
  · exact q.elim
/-! ### methods of built-in types -/
structure ZTy (K : PySem.W.Frag) (T : String) (x : V) (H : Hp) (R : Prop) : Prop where
  out : tyV K T x H ∧ R
def zMeth (K : PySem.W.Frag) (T : String) (r : V → List V → Hp → VK → Prop) (to : TE) (t : TA) : TE := fun σ H Q => to σ H fun x H1 => ZTy K T x H1 (t σ H1 fun xs H2 => r x xs H2 Q)
theorem zMeth_eq (K : PySem.W.Frag) (T : String) (r : V → List V → Hp → VK → Prop) (to : TE) (t : TA) : zMeth K T r to t = tBM K T r to t := by
  funext σ H Q
  exact congrArg (to σ H) (funext fun x => funext fun H1 => propext ⟨fun h => h.out, fun h => ⟨h⟩⟩)
def zMeth0 (K : PySem.W.Frag) (T : String) (r : V → List V → Hp → VK → Prop) (to : TE) : TE := fun σ H Q => to σ H fun x H1 => ZTy K T x H1 (r x [] H1 Q)
theorem zMeth0_eq (K : PySem.W.Frag) (T : String) (r : V → List V → Hp → VK → Prop) (to : TE) : zMeth0 K T r to = tBM0 K T r to := by
  funext σ H Q
  exact congrArg (to σ H) (funext fun x => funext fun H1 => propext ⟨fun h => h.out, fun h => ⟨h⟩⟩)
theorem zty_s {K : PySem.W.Frag} {z : Str} {H : Hp} {R : Prop} (r : R) : ZTy K "str" (.str z) H R := ⟨rfl, r⟩
theorem zty_l {K : PySem.W.Frag} {a : Addr} {xs : List V} {cs : List Chunk} {H : Hp} {R : Prop} (h : Own cs H) (m : pt a (.lst xs) ∈ cs) (r : R) : ZTy K "list" (.ref a) H R := ⟨.inl ⟨rfl, xs, SqL.of (h.get m)⟩, r⟩
theorem MtR.imp {X : Cx} {id : String} {r r' : V → List V → Hp → VK → Prop} (h : MtR X id r) (i : ∀ x xs H Q, r' x xs H Q → r x xs H Q) : MtR X id r' := fun pins s σ H x xs v us Q I rx rs q => h pins s σ H x xs v us Q I rx rs (i x xs H Q q)
def zAppend : V → List V → Hp → VK → Prop := fun x vs H Q => match x, vs with
  | .ref l, [y] => ZGet H l fun o => match o with
    | .lst xs => ZSide (xs.length < sizeLine) (ZSet H l (.lst (xs ++ [y])) fun H' => Q .non H')
    | _ => False
  | _, _ => False
theorem zAppend_ok {X : Cx} : MtR X "list.append" zAppend := MtR.imp mt_append fun x vs H Q q => by
  unfold zAppend at q
  split at q
  · rename_i l y
    obtain ⟨o, e, q⟩ := q.out
    split at q
    · rename_i xs
      exact ⟨l, xs, y, rfl, rfl, e, q.c, q.a.out⟩
    · exact q.elim
  · exact q.elim
def zPop : V → List V → Hp → VK → Prop := fun x vs H Q => match x, vs with
  | .ref l, [] => ZGet H l fun o => match o with
    | .lst xs => ZEx (fun y => xs[xs.length - 1]? = some y) fun y => ZSet H l (.lst xs.dropLast) fun H' => Q y H'
    | _ => False
  | _, _ => False
theorem zPop_ok {X : Cx} : MtR X "list.pop" zPop := MtR.imp mt_pop fun x vs H Q q => by
  unfold zPop at q
  split at q
  · rename_i l
    obtain ⟨o, e, q⟩ := q.out
    split at q
    · rename_i xs
      obtain ⟨y, ey, q⟩ := q.out
      exact ⟨l, xs, y, rfl, rfl, e, ey, q.out⟩
    · exact q.elim
  · exact q.elim
def zReverse : V → List V → Hp → VK → Prop := fun x vs H Q => match x, vs with
  | .ref l, [] => ZGet H l fun o => match o with
    | .lst xs => ZSet H l (.lst xs.reverse) fun H' => Q .non H'
    | _ => False
  | _, _ => False
theorem zReverse_ok {X : Cx} : MtR X "list.reverse" zReverse := MtR.imp mt_reverse fun x vs H Q q => by
  unfold zReverse at q
  split at q
  · rename_i l
    obtain ⟨o, e, q⟩ := q.out
    split at q
    · rename_i xs
      exact ⟨l, xs, rfl, rfl, e, q.out⟩
    · exact q.elim
  · exact q.elim
def zStrM (g : Str → Str → V) : V → List V → Hp → VK → Prop := fun x vs H Q => match x, vs with
  | .str a, [.str b] => Q (g a b) H
  | _, _ => False
theorem zStrM_imp {g : Str → Str → V} {x : V} {vs : List V} {H : Hp} {Q : VK} (q : zStrM g x vs H Q) : ∃ a b, x = .str a ∧ vs = [.str b] ∧ Q (g a b) H := by
  unfold zStrM at q
  split at q
  · exact ⟨_, _, rfl, rfl, q⟩
  · exact q.elim
theorem zFind_ok {X : Cx} : MtR X "str.find" (zStrM fun a b => .int (Txt.find a b)) := MtR.imp mt_find fun _ _ _ _ q => zStrM_imp q
theorem zEndswith_ok {X : Cx} : MtR X "str.endswith" (zStrM fun a b => .bl (Txt.endswith a b)) := MtR.imp mt_endswith fun _ _ _ _ q => zStrM_imp q
theorem zStartswith_ok {X : Cx} : MtR X "str.startswith" (zStrM fun a b => .bl (Txt.startswith a b)) := MtR.imp mt_startswith fun _ _ _ _ q => zStrM_imp q
def zSplit : V → List V → Hp → VK → Prop := fun x vs H Q => match x, vs with
  | .str a, [.str b] => ZSide ((b.length == 0) = false ∧ a.length + 2 ≤ sizeLine) (ZNew H (.lst ((Txt.split a b).map V.str)) fun p H' => Q (.ref p) H')
  | _, _ => False
theorem zSplit_ok {X : Cx} : MtR X "str.split" zSplit := MtR.imp mt_split fun x vs H Q q => by
  unfold zSplit at q
  split at q
  · exact ⟨_, _, rfl, rfl, q.c.1, q.c.2, q.a.out⟩
  · exact q.elim
/-! ### expressions -/
section
variable {m : Bool} {X : Cx} {W : WX} {k : Nat} {a b c e : Expr} {es : List Expr} {ta tb te : TE} {tA tB' : TT} {t : TA} {pos : Pos} {rest : List Expr}
theorem z_v (i : Nat) {x : Str} (hN : X.N[i]? = some x := by rfl) (hv : Vis X.env.scope x := by first | exact Or.inl rfl | exact Or.inr (Or.inl rfl) | exact Or.inr (Or.inr rfl)) (hd : (x == ("__debug__" : Str)) = false := by decide) (hcd : (x == ("__classdict__" : Str)) = false := by decide) : PE X (.Name x pos) (zVar i) := by
  rw [zVar_eq]
  exact pe_var hN hv hd hcd
theorem z_bin {op : Operator} {r : R2} (ho : OpR X (binaryOp op) r) (ha : PE X a ta) (hb : PE X b tb) : PE X (.BinOp a op b pos) (tOp r ta tb) := pe_op ho ha hb
theorem z_cmp {op : CmpOp} {r : R2} (ho : OpR X (compareOp op) r) (ha : PE X a ta) (hb : PE X b tb) (hm : behindInMarks op b = false := by first | rfl | exact nomark _) : PE X (.Compare a [op] [b] pos) (tOp r ta tb) := pe_cmpR ho ha hb hm
theorem zt_cmp {op : CmpOp} {r : R2} (ho : OpR X (compareOp op) r) (ha : PE X a ta) (hb : PE X b tb) (hm : behindInMarks op b = false := by first | rfl | exact nomark _) : PT X (.Compare a [op] [b] pos) (zTest (tOp r ta tb)) := by
  rw [zTest_eq]
  exact pt_cmpR ho ha hb hm
def zChain (r r' : R2) (ta tb tc : TE) : TE := fun σ H Q => ta σ H fun x H1 => tb σ H1 fun y H2 => r x y H2 (onB fun k H3 => ZIf (k = true) (tc σ H3 fun w' H4 => r' y w' H4 Q) (Q (.bl false) H3))
theorem zChain_eq (r r' : R2) (ta tb tc : TE) : zChain r r' ta tb tc = tChain r r' ta tb tc := by
  funext σ H Q
  refine congrArg (ta σ H) (funext fun x => funext fun H1 => congrArg (tb σ H1) (funext fun y => funext fun H2 => congrArg (r x y H2) (funext fun z => funext fun H3 => ?_)))
  rw [onB_eq]
  exact congrArg Exists (funext fun c => congrArg (And _) zif_iff)
theorem z_t (ha : PE X a ta) (he : ∀ whole, isTrue a X.env whole = (do let v ← whole; standAt a.pos; holding [v] (truthy v)) := by intro _; rfl) : PT X a (zT X.K ta) := by
  have e : zT X.K ta = fun σ H Q => ta σ H fun x H' => zTru X.K x H' Q := rfl
  rw [e]
  refine ⟨fun pins s σ H Q I h => ?_⟩
  refine isTrue_plain (thn (ha.run pins s σ H _ I h) fun v s1 hh => ?_) (he _)
  obtain ⟨x, H1, I1, r1, q1⟩ := hh
  refine tru_ok pins s1 σ H1 x v Q I1 r1 ?_
  unfold zTru at q1
  split at q1
  · exact ⟨_, rfl, q1⟩
  · exact ⟨_, rfl, q1⟩
  · exact ⟨_, rfl, q1⟩
  · exact ⟨_, ⟨q1.c, rfl⟩, q1.a⟩
  · obtain ⟨xs, ⟨e, q⟩ | ⟨e, q⟩⟩ := zsq_or q1
    · exact ⟨_, .inl ⟨xs, e, rfl⟩, q⟩
    · exact ⟨_, .inr (.inl ⟨xs, e, rfl⟩), q⟩
  · exact q1.elim
theorem zt_and1 (ha : PT X a tA) : PW X (.BoolOp .And [a] pos) tA := pw_and1 ha
theorem zt_or1 (ha : PT X a tA) : PW X (.BoolOp .Or [a] pos) tA := pw_or1 ha
theorem zt_and (ha : PT X a tA) (hb : PW X (.BoolOp .And (b :: rest) pos) tB') : PW X (.BoolOp .And (a :: b :: rest) pos) (zAnd tA tB') := by
  rw [zAnd_eq]
  exact pw_and ha hb
theorem zt_or (ha : PT X a tA) (hb : PW X (.BoolOp .Or (b :: rest) pos) tB') : PW X (.BoolOp .Or (a :: b :: rest) pos) (zOr tA tB') := by
  rw [zOr_eq]
  exact pw_or ha hb
theorem zt_not (ha : PT X a tA) : PT X (.UnaryOp .Not a pos) (tNot tA) := pt_not ha
theorem z_and (ha : PE X a ta) (hb : PE X (.BoolOp .And (b :: rest) pos) tb) : PE X (.BoolOp .And (a :: b :: rest) pos) (zAndV ta tb) := by
  rw [zAndV_eq]
  exact pe_and ha hb
theorem z_or (ha : PE X a ta) (hb : PE X (.BoolOp .Or (b :: rest) pos) tb) : PE X (.BoolOp .Or (a :: b :: rest) pos) (zOrV ta tb) := by
  rw [zOrV_eq]
  exact pe_or ha hb
theorem z_not (ha : PE X a ta) : PE X (.UnaryOp .Not a pos) (zNotV ta) := by
  rw [zNotV_eq]
  exact pe_not ha
theorem z_ife (hc : PT X c tA) (ha : PE X a ta) (hb : PE X b tb) : PE X (.IfExp c a b pos) (zIfE tA ta tb) := by
  rw [zIfE_eq]
  exact pe_ifExp hc ha hb
theorem z_ix (ha : PE X a ta) (hb : PE X b tb) (hs : PlainIx b := by intro _ _; rfl) : PE X (.Subscript a b pos) (tOp (zIx X.K) ta tb) := pe_ix zIx_ok ha hb hs
theorem z_po (h : PE X e te) : PO X (some e) (zPart te) := by
  rw [zPart_eq]
  exact po_some h
theorem z_sl {lo hi : Option Expr} {tl th : TO} {p2 : Pos} (he : PE X e te) (hl : PO X lo tl) (hu : PO X hi th) : PE X (.Subscript e (.Slice lo hi none p2) pos) (tSl (zSlc X.K) te tl th) := pe_slice zSlc_ok he hl hu
theorem z_lst (h : PA X es t) : PE X (.List es pos) (zLst t) := by
  rw [zLst_eq]
  exact pe_lst h
theorem z_tup {x1 : Nat} (h : PA X es t) : PE X (.Tuple es x1 pos) (zTup t) := by
  rw [zTup_eq]
  exact pe_tup h
/-- a def of the module is called -/
theorem z_call {x : Str} {ps : List Str} {sp : Sp} {j : Nat} {q : Pos} (c : Ce m X W k) (F : GFn m X.prog X.w X.K X.mg X.base j x ps sp) (hk : j ≤ k) (ha : PA X (e :: es) t) (hg : Gl X x := by rfl) (hdb : (x == ("__debug__" : Str)) = false := by decide)
    (he : starEach (e :: es) X.env = (false, eval e X.env) :: starEach es X.env := by rfl) (hpl : (backTo pos (starEach es X.env)).any (·.1) = false := by rfl) : PE X (.Call (.Name x q) (e :: es) [] pos) (zCall sp W t) := by
  rw [zCall_eq]
  obtain ⟨f, fd, F, hm, kp, b⟩ := F.ex
  cases m with
  | true => exact pe_callS F (c.room.mono hk) hg hm kp b (fun σ => L2N.passAt c.tk σ) ha hdb he hpl
  | false => exact L2H.pe_callH F (c.hot.2.mono hk) c.hot.1 hg hm kp b (fun σ => L2N.passAt c.tk σ) ha hdb he hpl
theorem z_callB {x : Str} {id : String} {r : List V → Hp → VK → Prop} {p : Pos} (hc : CallR X (.builtin id) r) (hm : X.mg x = none) (hv : bootBuiltins x = some (.builtin id)) (ha : PA X (e :: es) t) (hg : Gl X x := by rfl) (hn : x ≠ "__name__" := by decide) (hdb : (x == ("__debug__" : Str)) = false := by decide)
    (he : starEach (e :: es) X.env = (false, eval e X.env) :: starEach es X.env := by rfl) (hpl : (backTo pos (starEach es X.env)).any (·.1) = false := by rfl) : PE X (.Call (.Name x p) (e :: es) [] pos) (tCB r t) := pe_callB hc hg hm hv ha hn hdb he hpl
theorem z_callT {x : Str} {T : String} {r : List V → Hp → VK → Prop} {p : Pos} (hc : CallR X (.type T) r) (hm : X.mg x = none) (hv : bootBuiltins x = some (.type T)) (ha : PA X (e :: es) t) (hg : Gl X x := by rfl) (hn : x ≠ "__name__" := by decide) (hdb : (x == ("__debug__" : Str)) = false := by decide)
    (he : starEach (e :: es) X.env = (false, eval e X.env) :: starEach es X.env := by rfl) (hpl : (backTo pos (starEach es X.env)).any (·.1) = false := by rfl) : PE X (.Call (.Name x p) (e :: es) [] pos) (tCB r t) := pe_callTy hc hg hm hv ha hn hdb he hpl
theorem z_meth {o : Expr} {to : TE} {name : Str} {apos : Pos} {T id : String} {r : V → List V → Hp → VK → Prop} (pa : PlainAttrs T) (slot : Slot T name id) (hty : typeOf (.builtin id) = pure (.type "method_descriptor")) (hm : MtR X id r) (ho : PE X o to) (ha : PA X (e :: es) t)
    (hbase : attributeBase o name X.env (eval o X.env) = eval o X.env := by rfl)
    (hfew : ((backTo pos (starEach (e :: es) X.env)).all (fun x => !x.1) && (backToKw pos (keywordEach [] X.env)).all (fun x => x.1.isSome) && decide ((e :: es).length + ([] : List Keyword).length + (if ([] : List Keyword).isEmpty then 0 else 1) < 30)) = true := by rfl)
    (hline : (apos.endLine == pos.line) = true := by rfl) (hs : starEach (e :: es) X.env = (false, eval e X.env) :: starEach es X.env := by rfl) (hplain : (backTo pos (starEach es X.env)).any (·.1) = false := by rfl) : PE X (.Call (.Attribute o name apos) (e :: es) [] pos) (zMeth X.K T r to t) := by
  rw [zMeth_eq]
  exact pe_bm pa slot hty hm ho ha hbase hfew hline hs hplain
theorem z_meth0 {o : Expr} {to : TE} {name : Str} {apos : Pos} {T id : String} {r : V → List V → Hp → VK → Prop} (pa : PlainAttrs T) (slot : Slot T name id) (hty : typeOf (.builtin id) = pure (.type "method_descriptor")) (hm : MtR X id r) (ho : PE X o to)
    (hbase : attributeBase o name X.env (eval o X.env) = eval o X.env := by rfl) (hline : (apos.endLine == pos.line) = true := by rfl) : PE X (.Call (.Attribute o name apos) [] [] pos) (zMeth0 X.K T r to) := by
  rw [zMeth0_eq]
  exact pe_bm0 pa slot hty hm ho hbase hline
end
end Z

/-! Z2: statements, loops, errors -/
namespace Z
open PySem PySem.Spec PyProof.Rows L2
section
variable {m : Bool} {X : Cx} {W : WX} {k : Nat} {e c : Expr} {te : TE} {st : Stmt} {rest body : List Stmt} {t u : TS} {pos : Pos} {wi : TI} {g : TG} {tb : TS} {tg iter : Expr}
theorem z_if {a b : List Stmt} {tc : TT} (hc : PT X c tc) (ha : PSs X a t) (hb : PSs X b u) : PS X (.If c a b pos) (zIfS tc t u) := by
  rw [zIfS_eq]
  exact ps_if hc ha hb
theorem z_set (i : Nat) {x : Str} {pos' : Pos} (he : PE X e te) (hN : X.N.Nodup) (hi : X.N[i]? = some x := by rfl) (hx : Loc X.env.scope x := by first | exact Or.inl rfl | exact Or.inr rfl) (hs : swapsWith e (some (.Name x pos')) pos.line X.env = pure false := by rfl) (hf : X.fn x = true ∨ X.env.scope.names.lookup x = some .local := by first | exact .inl rfl | exact .inr rfl) :
    PS X (.Assign [.Name x pos'] e pos) (tAsg te (zN i)) := by
  rw [zN_eq]
  exact ps_set hN hi hx he hs hf
theorem zg_name (i : Nat) {x : Str} (hN : X.N.Nodup) (hi : X.N[i]? = some x := by rfl) (hx : Loc X.env.scope x := by first | exact Or.inl rfl | exact Or.inr rfl) (hf : X.fn x = true ∨ X.env.scope.names.lookup x = some .local := by first | exact .inl rfl | exact .inr rfl) : PG X (.Name x pos) (zN i) := by
  rw [zN_eq]
  exact pg_name hN hi hx hf
/-- o[i] = e -/
theorem z_setIx {o i : Expr} {to ti : TE} {ts : TSet} {pos' : Pos} (ho : PE X o to) (hi : PE X i ti) (he : PE X e te) (hs : PSet X ts) (hsw : swapsWithSole [.Subscript o i pos'] e pos.line X.env = pure false := by rfl) (hw : swappedStores [.Subscript o i pos'] e X.env = pure none := by rfl)
    (h1 : (assignEach [.Subscript o i pos'] X.env).map (·.2) = [assign (.Subscript o i pos') X.env] := by rfl)
    (ha : ∀ v, assign (.Subscript o i pos') X.env v = (do
      let ov ← holding [v] (eval o X.env)
      let iv ← holding [v, ov] (eval i X.env)
      standAt pos'
      holding [v, ov, iv] (setItem ov iv v)
      release [v, ov, iv] []) := by intro _; rfl) : PS X (.Assign [.Subscript o i pos'] e pos) (tAsg te (gSub to ti ts)) := ps_asg he (pg_sub ho hi hs ha) hsw hw h1
def zAug (i : Nat) (te : TE) (ti : R2) : TS := fun D σ H => zv σ i fun x => te σ H fun y H1 => ti x y H1 fun z H2 => zs σ i z fun σ' => D.nx σ' H2
theorem zAug_eq (i : Nat) (te : TE) (ti : R2) : zAug i te ti = tAug i te ti := by
  funext D σ H
  unfold zAug
  rw [propext zv_iff]
  refine congrArg Exists (funext fun x => congrArg (And _) ?_)
  exact congrArg (te σ H) (funext fun y => funext fun H1 => congrArg (ti x y H1) (funext fun z => funext fun H2 => zs_eq))
theorem z_aug (i : Nat) {x : Str} {op : Operator} {ti : R2} {pos' : Pos} (he : PE X e te) (ho : OpR X (inplaceOp op) ti) (hN : X.N.Nodup) (hi : X.N[i]? = some x := by rfl) (hx : Loc X.env.scope x := by first | exact Or.inl rfl | exact Or.inr rfl) (hf : X.fn x = true ∨ X.env.scope.names.lookup x = some .local := by first | exact .inl rfl | exact .inr rfl) :
    PS X (.AugAssign (.Name x pos') op e pos) (zAug i te ti) := by
  rw [zAug_eq]
  exact ps_aug hN hi hx he ho hf
/-! ### loops -/
structure ZLoop (J : It) (g : TG) (tb : TS) (D : Ends) (σ : St) (H : Hp) : Prop where
  out : ∃ W : Nat → Nat → St → Hp → Prop, (∃ m, W 0 m σ H) ∧ ∀ i m σ H, W i m σ H →
    (J.stop i H ∧ D.nx σ H) ∨ (J.go i H ∧ ∃ N : St → Hp → Prop, (∀ σ' H', N σ' H' → ∃ m', m' < m ∧ W (i + 1) m' σ' H') ∧ ∀ x H', J.yld i H x H' → g x σ H' fun σ2 H2 => tb { D with nx := N, ct := N, bk := D.nx } σ2 H2)
def zFor (wi : TI) (g : TG) (tb : TS) : TS := fun D σ H => wi σ H fun J H1 => ZLoop J g tb D σ H1
theorem zFor_eq (wi : TI) (g : TG) (tb : TS) : zFor wi g tb = tFor wi g tb := by
  funext D σ H
  exact congrArg (wi σ H) (funext fun J => funext fun H1 => propext ⟨fun h => h.out, fun h => ⟨h⟩⟩)
theorem z_for (cz : Cz true X W k) (hi : PI X tg iter wi) (hg : PG X tg g) (hb : PSs X body tb) (hs : ∀ x, foldedSetIterable iter X.env x = pure x := by intro _; rfl) : PS X (.For tg iter body [] pos) (zFor wi g tb) := by
  rw [zFor_eq]
  exact ps_for cz.own cz.calm hi hg hb hs
/-- the same while an error is handled, over a range -/
theorem z_forH (cz : Cz false X W k) (hi : L2H.PIH X tg iter wi) (hg : PG X tg g) (hb : PSs X body tb) (hs : ∀ x, foldedSetIterable iter X.env x = pure x := by intro _; rfl) : PS X (.For tg iter body [] pos) (zFor wi g tb) := by
  rw [zFor_eq]
  exact L2H.ps_forH cz.own cz.hot.1 hi hg hb hs
/-- a list or a tuple that is walked -/
def zItS (K : PySem.W.Frag) (tl : TE) : TI := fun σ H R => tl σ H fun x H1 => match x with
  | .ref a => ZSq K H1 a fun b _ => match b with
    | true => R (Itl K a) H1
    | false => R (Itt K a) H1
  | _ => False
theorem z_itS {l : Expr} {tl : TE} (hl : PE X l tl) : PI X tg l (zItS X.K tl) := by
  constructor
  intro pins s σ H R I h
  refine thn (hl.run pins s σ H _ I h) fun v s1 hh => ?_
  obtain ⟨x, H1, I1, r1, q1⟩ := hh
  cases x with
  | ref a =>
    cases r1
    have fp : ∀ (o : Obj), ∀ b ∈ [s1.heap.objs.size], FpOk X pins H1 b := fun o b hb => by
      rw [List.mem_singleton.mp hb]
      exact I1.fpOk (Nat.le_refl _) (I1.hok.fresh (Nat.le_refl _))
    obtain ⟨xs, ⟨hq, q⟩ | ⟨hq, q⟩⟩ := zsq_or q1
    · obtain ⟨its, rv, p, hz⟩ := I1.list hq
      exact wpAny_pyIter_list p.isList ⟨_, _, _, _, H1, rfl, I1.kept (t' := s1.toks) fun b o z => Heap.get?_push_of_some _ z, turn_list a _, ⟨_, Heap.get?_push_size _ rfl, rfl, rfl⟩, fp default, q⟩
    · obtain ⟨its, rv, p, hz⟩ := I1.tuple hq
      exact wpAny_pyIter_tuple (show s1.heap.IsTuple a its.toArray from p) ⟨_, _, _, _, H1, rfl, I1.kept (t' := s1.toks) fun b o z => Heap.get?_push_of_some _ z, turn_tuple a _, ⟨_, Heap.get?_push_size _ rfl, rfl, rfl⟩, fp default, q⟩
  | _ => exact q1.elim
def zRng1 (ta : TA) : TI := fun σ H R => ta σ H fun vs H1 => match vs with
  | [.int j] => ZSide (-(2 ^ 62) ≤ j ∧ j < 2 ^ 62) (R (Itr 0 j.toNat) H1)
  | _ => False
theorem zRng1_eq (ta : TA) : zRng1 ta = iRng1 ta := by
  funext σ H R
  refine congrArg (ta σ H) (funext fun vs => funext fun H1 => propext ⟨fun h => ?_, fun h => ?_⟩)
  · split at h
    · exact ⟨_, rfl, h.c.1, h.c.2, h.a⟩
    · exact h.elim
  · obtain ⟨j, e, a, b, r⟩ := h
    rw [e]
    exact ⟨⟨a, b⟩, r⟩
theorem z_rng1 {a : Expr} {ta : TA} {p pos : Pos} (hm : X.mg "range" = none) (ha : PA X [a] ta) (hg : Gl X "range" := by rfl) (hs : starEach [a] X.env = [(false, eval a X.env)] := by rfl) : PI X tg (.Call (.Name "range" p) [a] [] pos) (zRng1 ta) := by
  rw [zRng1_eq]
  exact pi_range1 hg hm ha hs
theorem z_rng1H {a : Expr} {ta : TA} {p pos : Pos} (hm : X.mg "range" = none) (ha : PA X [a] ta) (hg : Gl X "range" := by rfl) (hs : starEach [a] X.env = [(false, eval a X.env)] := by rfl) : L2H.PIH X tg (.Call (.Name "range" p) [a] [] pos) (zRng1 ta) := by
  rw [zRng1_eq]
  exact L2H.pi_range1H hg hm ha hs
/-- in either mode -/
theorem z_forR {a : Expr} {ta : TA} {p pos2 : Pos} (cz : Cz m X W k) (hm : X.mg "range" = none) (ha : PA X [a] ta) (hg : PG X tg g) (hb : PSs X body tb) (hgl : Gl X "range" := by rfl) (hs : starEach [a] X.env = [(false, eval a X.env)] := by rfl)
    (hs2 : ∀ x, foldedSetIterable (.Call (.Name "range" p) [a] [] pos2) X.env x = pure x := by intro _; rfl) : PS X (.For tg (.Call (.Name "range" p) [a] [] pos2) body [] pos) (zFor (zRng1 ta) g tb) := by
  cases m with
  | true => exact z_for cz (z_rng1 hm ha hgl hs) hg hb hs2
  | false => exact z_forH cz (z_rng1H hm ha hgl hs) hg hb hs2
/-- a text's signs -/
def zStrI (ts : TE) : TI := fun σ H R => ts σ H fun x H1 => match x with
  | .str z => R (Its z) H1
  | _ => False
/-! the loop's forms -/
theorem zloop_l {K : PySem.W.Frag} {a : Addr} {xs : List V} {D : Ends} {σ : St} {H : Hp} (Pv : Nat → St → Hp → Prop) (h0 : Pv 0 σ H) (hl : ∀ i σ H, i ≤ xs.length → Pv i σ H → SqL K H a xs)
    (hs : ∀ i x σ H, xs[i]? = some x → Pv i σ H → g x σ H fun σ2 H2 => tb { D with nx := Pv (i + 1), ct := Pv (i + 1), bk := D.nx } σ2 H2) (hd : ∀ σ H, Pv xs.length σ H → D.nx σ H) : ZLoop (Itl K a) g tb D σ H := ⟨for_list Pv h0 hl hs hd⟩
theorem zloop_t {K : PySem.W.Frag} {a : Addr} {xs : List V} {D : Ends} {σ : St} {H : Hp} (Pv : Nat → St → Hp → Prop) (h0 : Pv 0 σ H) (hl : ∀ i σ H, i ≤ xs.length → Pv i σ H → SqT K H a xs)
    (hs : ∀ i x σ H, xs[i]? = some x → Pv i σ H → g x σ H fun σ2 H2 => tb { D with nx := Pv (i + 1), ct := Pv (i + 1), bk := D.nx } σ2 H2) (hd : ∀ σ H, Pv xs.length σ H → D.nx σ H) : ZLoop (Itt K a) g tb D σ H := ⟨for_tup Pv h0 hl hs hd⟩
theorem zloop_r {lo : Int} {n : Nat} {D : Ends} {σ : St} {H : Hp} (Pv : Nat → St → Hp → Prop) (h0 : Pv 0 σ H) (hs : ∀ i σ H, i < n → Pv i σ H → g (.int (lo + i)) σ H fun σ2 H2 => tb { D with nx := Pv (i + 1), ct := Pv (i + 1), bk := D.nx } σ2 H2)
    (hd : ∀ σ H, Pv n σ H → D.nx σ H) : ZLoop (Itr lo n) g tb D σ H := ⟨for_range Pv h0 hs hd⟩
/-- turn by turn, a list or tuple that stays -/
def unr (P : Hp → Prop) (g : TG) (tb : TS) (D : Ends) : List V → St → Hp → Prop
  | [], σ, H => ZSide (P H) (D.nx σ H)
  | x :: xs, σ, H => ZSide (P H) (g x σ H fun σ2 H2 => tb { D with nx := unr P g tb D xs, ct := unr P g tb D xs, bk := D.nx } σ2 H2)
theorem unr_side {P : Hp → Prop} {D : Ends} {xs : List V} {σ : St} {H : Hp} (h : unr P g tb D xs σ H) : P H := by
  cases xs with
  | nil => exact ZSide.c h
  | cons x xs => exact ZSide.c h
theorem zloop_unr {K : PySem.W.Frag} {a : Addr} {xs : List V} {D : Ends} {σ : St} {H : Hp} (h : unr (fun H => SqL K H a xs) g tb D xs σ H) : ZLoop (Itl K a) g tb D σ H := by
  refine zloop_l (xs := xs) (fun i σ H => unr (fun H => SqL K H a xs) g tb D (xs.drop i) σ H) h (fun i σ H _ u => unr_side u) (fun i x σ H hi u => ?_) fun σ H u => ?_
  · have hlt := (List.getElem?_eq_some_iff.mp hi).1
    have hx := (List.getElem?_eq_some_iff.mp hi).2
    rw [List.drop_eq_getElem_cons hlt, hx] at u
    exact ZSide.a u
  · rw [List.drop_length] at u
    exact ZSide.a u
theorem zloop_unrT {K : PySem.W.Frag} {a : Addr} {xs : List V} {D : Ends} {σ : St} {H : Hp} (h : unr (fun H => SqT K H a xs) g tb D xs σ H) : ZLoop (Itt K a) g tb D σ H := by
  refine zloop_t (xs := xs) (fun i σ H => unr (fun H => SqT K H a xs) g tb D (xs.drop i) σ H) h (fun i σ H _ u => unr_side u) (fun i x σ H hi u => ?_) fun σ H u => ?_
  · have hlt := (List.getElem?_eq_some_iff.mp hi).1
    have hx := (List.getElem?_eq_some_iff.mp hi).2
    rw [List.drop_eq_getElem_cons hlt, hx] at u
    exact ZSide.a u
  · rw [List.drop_length] at u
    exact ZSide.a u
/-- turn by turn, a range -/
def unrR (g : TG) (tb : TS) (D : Ends) : Int → Nat → St → Hp → Prop
  | _, 0, σ, H => D.nx σ H
  | lo, n + 1, σ, H => g (.int lo) σ H fun σ2 H2 => tb { D with nx := unrR g tb D (lo + 1) n, ct := unrR g tb D (lo + 1) n, bk := D.nx } σ2 H2
theorem zloop_unrR {lo : Int} {n : Nat} {D : Ends} {σ : St} {H : Hp} (h : unrR g tb D lo n σ H) : ZLoop (Itr lo n) g tb D σ H := by
  refine zloop_r (fun i σ H => i ≤ n ∧ unrR g tb D (lo + i) (n - i) σ H) ⟨Nat.zero_le _, by simpa using h⟩ (fun i σ H hi u => ?_) fun σ H u => ?_
  · obtain ⟨_, u⟩ := u
    have e : n - i = (n - (i + 1)) + 1 := by omega
    rw [e] at u
    have e2 : (fun σ2 H2 => i + 1 ≤ n ∧ unrR g tb D (lo + ((i + 1 : Nat) : Int)) (n - (i + 1)) σ2 H2) = unrR g tb D (lo + i + 1) (n - (i + 1)) := by
      funext σ2 H2
      have e3 : lo + ((i + 1 : Nat) : Int) = lo + i + 1 := by omega
      rw [e3]
      exact propext ⟨fun z => z.2, fun z => ⟨by omega, z⟩⟩
    rw [e2]
    exact u
  · obtain ⟨_, u⟩ := u
    rw [Nat.sub_self] at u
    exact u
structure ZWhile (c : TT) (tb : TS) (D : Ends) (σ : St) (H : Hp) : Prop where
  out : tWhile c tb D σ H
theorem z_while {tc : TT} (cz : Cz m X W k) (hc : PT X c tc) (hb : PSs X body tb) : PS X (.While c body [] pos) (fun D σ H => ZWhile tc tb D σ H) := by
  have e : (fun D σ H => ZWhile tc tb D σ H) = tWhile tc tb := by
    funext D σ H
    exact propext ⟨fun h => h.out, fun h => ⟨h⟩⟩
  rw [e]
  exact ps_while cz.own hc hb
/-! ### errors -/
def zRaise (C : Addr) (n : Nat) (mk : List V → List (Str × V)) (W : WX) (ta : TA) : TS := fun _ σ H => ta σ H fun vs H1 => ZSide (vs.length = n ∧ vs.length ≤ 100) (ZNew H1 (.xd (mk vs)) fun d H' => W (.ref C) (some d) σ H')
theorem z_raise {x : Str} {C : Addr} {j n : Nat} {mk : List V → List (Str × V)} {es : List Expr} {ta : TA} {p p2 : Pos} (cz : Cz true X W k) (T : ErrOk X.prog X.w X.K X.mg x C j n mk) (hj : j ≤ k) (ha : PA X (e :: es) ta) (hg : Gl X x := by rfl) (hdb : (x == ("__debug__" : Str)) = false := by decide)
    (he : starEach (e :: es) X.env = (false, eval e X.env) :: starEach es X.env := by rfl) (hpl : (backTo p2 (starEach es X.env)).any (·.1) = false := by rfl) : PS X (.Raise (some (.Call (.Name x p) (e :: es) [] p2)) none pos) (zRaise C n mk W ta) := by
  have h := L2N.ps_raise (pos := pos) cz.calm cz.tk (pmk_err (p := p) (pos := p2) T (by have := cz.dp; omega) hg ha hdb he hpl)
  have q : zRaise C n mk W ta = fun (_ : Ends) σ H => ta σ H fun vs H1 => vs.length = n ∧ vs.length ≤ 100 ∧ ∀ d, H1 d = none → W (.ref C) (some d) σ (upd H1 d (.xd (mk vs))) := by
    funext D σ H
    refine congrArg (ta σ H) (funext fun vs => funext fun H1 => propext ⟨fun h => ⟨h.c.1, h.c.2, h.a.out⟩, fun h => ⟨⟨h.1, h.2.1⟩, ⟨h.2.2⟩⟩⟩)
  rw [q]
  exact h
def zsn : St → Nat → (St → Prop) → Prop
  | [], _, k => k []
  | _ :: r, 0, k => k (none :: r)
  | o :: r, n + 1, k => zsn r n fun r' => k (o :: r')
theorem zsn_eq : ∀ {σ : St} {i : Nat} {k : St → Prop}, zsn σ i k = k (σ.set i none)
  | [], _, _ => rfl
  | _ :: _, 0, _ => rfl
  | o :: r, n + 1, k => by
    show zsn r n _ = _
    rw [zsn_eq]
    rfl
/-- an error flies into a clause that names the class c -/
structure ZExm (K : PySem.W.Frag) (cls c : Value) (R : Bool → Prop) : Prop where
  out : ∃ b, PySem.W.exmOne K cls c = some b ∧ R b
def zWas (K : PySem.W.Frag) (c : Value) (i : Nat) (ts : Addr → Value → Option Addr → TS) (Wout : WX) (D : Ends) : WX := fun cls d σ H => ZExm K cls c fun b => match b with
  | true => ∀ a, H a = none → zs σ i (.ref a) fun σ' => ts a cls d { nx := fun σ' H' => zsn σ' i fun σ2 => D.nx σ2 H', rt := D.rt, bk := fun σ' H' => zsn σ' i fun σ2 => D.bk σ2 H', ct := fun σ' H' => zsn σ' i fun σ2 => D.ct σ2 H' } σ' H
  | false => Wout cls d σ H
theorem zWas_eq (K : PySem.W.Frag) (c : Value) (i : Nat) (ts : Addr → Value → Option Addr → TS) (Wout : WX) (D : Ends) : zWas K c i ts Wout D = wAs K c i ts Wout D := by
  funext cls d σ H
  have e1 : ∀ (F : St → Hp → Prop), (fun σ' H' => zsn σ' i fun σ2 => F σ2 H') = fun σ' H' => F (σ'.set i none) H' := fun F => by
    funext σ' H'
    exact zsn_eq
  refine propext ⟨fun h => ?_, fun h => ?_⟩
  · obtain ⟨b, e, h⟩ := h.out
    refine ⟨b, e, ?_⟩
    cases b with
    | true =>
      refine ⟨fun _ a ha => ?_, fun z => (nomatch z)⟩
      have q := h a ha
      rw [zs_eq, e1 D.nx, e1 D.bk, e1 D.ct] at q
      exact q
    | false => exact ⟨fun z => (nomatch z), fun _ => h⟩
  · obtain ⟨b, e, h1, h2⟩ := h
    refine ⟨b, e, ?_⟩
    cases b with
    | true =>
      intro a ha
      rw [zs_eq, e1 D.nx, e1 D.bk, e1 D.ct]
      exact h1 rfl a ha
    | false => exact h2 rfl
/-- the suite's own context -/
theorem cz_suite {a : Addr} {oe : Obj} {cls : Value} {d : Option Addr} {pn : List (Addr × Obj)} (cz : Cz true X W k) (hz : L2N.Zn cls d oe) (hf : ∃ vs, oe.data = .fields vs) : Cz false (X.suite a ((a, oe) :: pn)) (fun _ _ _ _ => False) k := by
  obtain ⟨vs, hv⟩ := hf
  refine ⟨.inr ⟨rfl, ⟨(a, oe), ⟨rfl, vs, hv, hz.2.2 vs hv⟩, List.mem_cons_self⟩, L2H.roomH_mark cz.room _⟩, fun _ _ z => ?_, PassesOwn.never, cz.stk, cz.frm⟩
  obtain ⟨_, _, _, _, _, _, _, _, _, _, _, _, _, _, _, _, w⟩ := z
  exact w.elim
theorem cz_body {pn : List (Addr × Obj)} {xe : Value → Shared → Prop} {W' : WX} (cz : Cz true X W k) (tk : L2N.Takes (X.tr pn xe) W') (ow : PassesOwn (model X.prog X.w) X.A X.env xe) : Cz true (X.tr pn xe) W' k :=
  ⟨.inl ⟨rfl, cz.calm, cz.room⟩, tk, ow, cz.stk, cz.frm⟩
/-- try: body, except x as n: suite -/
theorem z_try {x n : Str} {cv : Value} {i : Nat} {suite : List Stmt} {b₀ : Stmt} {np pos' : Pos} {tb : WX → TS} {ts : Addr → Value → Option Addr → TS} (cz : Cz true X W k) (hN : X.N.Nodup) (hc : Names X x cv)
    (hb : ∀ (W' : WX) (pn : List (Addr × Obj)) (xe : Value → Shared → Prop), Cz true (X.tr pn xe) W' k → PSs (X.tr pn xe) body (tb W'))
    (hsu : ∀ (a : Addr) (oe : Obj) (cls : Value) (d : Option Addr) (pn : List (Addr × Obj)), L2N.Zn cls d oe → (∃ vs, oe.data = .fields vs) → Cz false (X.suite a ((a, oe) :: pn)) (fun _ _ _ _ => False) k → PSs (X.suite a ((a, oe) :: pn)) (b₀ :: suite) (ts a cls d))
    (hi : X.N[i]? = some n := by rfl) (hln : X.env.kindOf n = some .local := by rfl) :
    PS X (.Try body [.ExceptHandler (some (.Name x np)) (some n) (b₀ :: suite) pos'] [] [] pos) (fun D σ H => tb (zWas X.K cv i ts W D) D σ H) := by
  have e : (fun D σ H => tb (zWas X.K cv i ts W D) D σ H) = fun D σ H => tb (wAs X.K cv i ts W D) D σ H := by
    funext D σ H
    rw [zWas_eq]
  rw [e]
  exact L2N.ps_try_as cz.stk cz.frm hN hi hln hc cz.tk (fun W' pn xe tk ow => hb W' pn xe (cz_body cz tk ow)) fun a oe cls d pn hz hf => hsu a oe cls d pn hz hf (cz_suite cz hz hf)
end
/-- the field of the error that a suite holds -/
structure ZXf (K : PySem.W.Frag) (a : Addr) (cls : Value) (d : Option Addr) (f : Str) (x : V) (H : Hp) (R : V → Prop) : Prop where
  out : ∃ (C dd : Addr) (fs : List (Str × V)) (v : V), x = .ref a ∧ cls = .ref C ∧ XfC K C ∧ PySem.W.findIn K (.ref C) f = some none ∧ d = some dd ∧ H dd = some (.xd fs) ∧ fs.lookup f = some v ∧ R v
theorem z_xf {X : Cx} {a : Addr} {oe : Obj} {cls : Value} {d : Option Addr} {pn : List (Addr × Obj)} {e : Expr} {te : TE} {pos : Pos} {f : Str} (hz : L2N.Zn cls d oe) (hf : ∃ vs, oe.data = .fields vs) (he : PE (X.suite a ((a, oe) :: pn)) e te) (hb : attributeBase e f X.env (eval e X.env) = eval e X.env := by rfl) :
    PE (X.suite a ((a, oe) :: pn)) (.Attribute e f pos) (fun σ H Q => te σ H fun x H1 => ZXf X.K a cls d f x H1 fun v => Q v H1) := by
  constructor
  intro pins s σ H Q I h
  refine attr_of hb (thn (he.run pins s σ H _ I h) fun u s1 hh => ?_)
  obtain ⟨x, H1, I1, rx, C, dd, fs, v, ex, ec, T, hno, ed, ea, l, q⟩ := hh
  subst ex
  obtain rfl : u = Value.ref a := rx
  subst ec
  subst ed
  obtain ⟨ha, _⟩ := I1.pin (a, oe) (List.mem_append_left _ List.mem_cons_self)
  obtain ⟨vs, hd⟩ := hf
  obtain ⟨mA, hns, hr⟩ := (show ObjOk X.prog X.w H1 s1.heap dd (.xd fs) from I1.hok dd _ ea)
  obtain ⟨od, ho, hl⟩ := lookIn_ns hns
  obtain ⟨u, hu, ru⟩ := RelO.some_of (v := v) (o := mA f) (by rw [← l]; exact hr f)
  have nc : PySem.W.notCls oe = true := by
    unfold PySem.W.notCls
    rw [hd]
  have J : PySem.W.InstAt s1.heap a oe C (some od) := ⟨ha, hz.1, nc, by rw [hz.2.1]; exact ho⟩
  exact HandSPX.exc_get I1.kIn J T.ga T.gg T.exC (PySem.W.findObj_own T.hdC hno rfl (by rw [hl, hu])) (handed_of ru) ⟨v, H1, I1.tok _, ru, q⟩
/-- isinstance of the error that a suite holds -/
structure IsC (K : PySem.W.Frag) (C : Addr) : Prop where
  xf : XfC K C
  cl : (PySem.W.clsIn K C).isSome = true
  ca : PySem.W.findIn K (.ref C) "__class__" = some (some (.builtin "object.__class__"))
  cn : PySem.W.specialIn K (.builtin "object.__class__") "__get__" = some (some (.builtin "getset_descriptor.__get__"))
  ct : PySem.W.takesIn K (.builtin "object.__class__") = some true
  cm : PySem.W.mroIn K C (.type "object") = some true
structure ZIsE (K : PySem.W.Frag) (a : Addr) (cls : Value) (d : Option Addr) (x c : V) (H : Hp) (R : Bool → Prop) : Prop where
  out : ∃ (C dd : Addr) (fs : List (Str × V)) (u : Value) (b : Bool), x = .ref a ∧ cls = .ref C ∧ IsC K C ∧ d = some dd ∧ H dd = some (.xd fs) ∧ ClsV c u ∧ PySem.W.kitOne K (.ref C) u = some b ∧ R b
def zIsE (K : PySem.W.Frag) (a : Addr) (cls : Value) (d : Option Addr) : List V → Hp → VK → Prop := fun xs H Q => match xs with
  | [x, c] => ZIsE K a cls d x c H fun b => Q (.bl b) H
  | _ => False
theorem zIsE_ok {X : Cx} {a : Addr} {oe : Obj} {cls : Value} {d : Option Addr} {pn : List (Addr × Obj)} (hz : L2N.Zn cls d oe) (hf : ∃ vs, oe.data = .fields vs) : CallR (X.suite a ((a, oe) :: pn)) (.builtin "isinstance") (zIsE X.K a cls d) := by
  intro pins s σ H xs us Q I r h
  unfold zIsE at h
  split at h
  · rename_i x c
    obtain ⟨C, dd, fs, u, b, ex, ec, T, ed, ea, hc, hk, q⟩ := h.out
    subst ex ec ed
    obtain ⟨u1, u2, rfl, r1, r2⟩ := vals2 r
    cases (show u1 = Value.ref a from r1)
    have e2 := hc.eq r2
    subst e2
    obtain ⟨hget, _⟩ := I.pin (a, oe) (List.mem_append.mpr (.inl List.mem_cons_self))
    obtain ⟨vs, hv⟩ := hf
    obtain ⟨mA, hns, hr⟩ := (show ObjOk X.prog X.w H s.heap dd (.xd fs) from I.hok dd _ ea)
    obtain ⟨od, ho, hl⟩ := lookIn_ns hns
    have nc : PySem.W.notCls oe = true := by
      unfold PySem.W.notCls
      rw [hv]
    have J : PySem.W.InstAt s.heap a oe C (some od) := ⟨hget, hz.1, nc, by rw [hz.2.1]; exact ho⟩
    exact PySem.W.kia_one (PySem.W.kitx_exc T.cl T.xf.ga T.xf.gg T.xf.exC T.ca T.cn T.ct T.cm) I.kIn J hk (fun z => (nomatch z)) fun tk => ⟨.bl b, H, I.kept (t' := tk) fun _ _ z => z, rfl, q⟩
  · exact h.elim
end Z

/-! Z3: more operators, types, calls, the step of a walk -/
namespace Z
open PySem PySem.Spec PyProof.Rows L2
def zSub : R2 := zInt fun i j => .int (i - j)
def zMul : R2 := zIntC CMul fun i j => .int (i * j)
def zFdv : R2 := zIntC CDivW fun i j => .int (i / j)
def zMod : R2 := zIntC (fun _ j => 0 < j) fun i j => .int (i % j)
def zPow : R2 := zIntC CPow fun i j => .int (i ^ j.toNat)
section
variable {X : Cx}
theorem zSub_ok : OpR X (binaryOp .Sub) zSub := OpR.imp op_sub zInt_imp
theorem zMul_ok : OpR X (binaryOp .Mult) zMul := OpR.imp op_mul zIntC_imp
theorem zFdv_ok : OpR X (binaryOp .FloorDiv) zFdv := OpR.imp op_fdivW zIntC_imp
theorem zMod_ok : OpR X (binaryOp .Mod) zMod := OpR.imp op_mod zIntC_imp
theorem zPow_ok : OpR X (binaryOp .Pow) zPow := OpR.imp op_pow zIntC_imp
theorem zLt_ok : OpR X (compareOp .Lt) zLt := OpR.imp op_lt zInt_imp
theorem zLe_ok : OpR X (compareOp .LtE) zLe := OpR.imp op_le zInt_imp
theorem zGt_ok : OpR X (compareOp .Gt) zGt := OpR.imp op_gt zInt_imp
theorem zGe_ok : OpR X (compareOp .GtE) zGe := OpR.imp op_ge zInt_imp
end
/-- in, over a text or a list or a tuple -/
def zIn (K : PySem.W.Frag) (neg : Bool) : R2 := fun x y H Q => match y with
  | .str _ => zInC neg x y H Q
  | .ref _ => zInL K neg x y H Q
  | _ => False
theorem zIn_ok {X : Cx} : OpR X (compareOp .In) (zIn X.K false) := fun pins s σ H x y v u Q I rx ry q => by
  cases y with
  | str z => exact zInC_ok pins s σ H x _ v u Q I rx ry q
  | ref p => exact zInL_ok pins s σ H x _ v u Q I rx ry q
  | _ => exact q.elim
theorem zNotIn_ok {X : Cx} : OpR X (compareOp .NotIn) (zIn X.K true) := fun pins s σ H x y v u Q I rx ry q => by
  cases y with
  | str z => exact zNotInC_ok pins s σ H x _ v u Q I rx ry q
  | ref p => exact zNotInL_ok pins s σ H x _ v u Q I rx ry q
  | _ => exact q.elim
/-! ### types -/
inductive Tn where
  | int | bool | str | list | tuple | non | dict
def Tn.nm : Tn → String
  | .int => "int"
  | .bool => "bool"
  | .str => "str"
  | .list => "list"
  | .tuple => "tuple"
  | .non => "NoneType"
  | .dict => "dict"
def isT : Tn → Tn → Bool
  | .int, .int => true
  | .bool, .bool => true
  | .bool, .int => true
  | .str, .str => true
  | .list, .list => true
  | .tuple, .tuple => true
  | .non, .non => true
  | .dict, .dict => true
  | _, _ => false
theorem isT_ok : ∀ a b : Tn, kitB a.nm b.nm = some (isT a b)
  | .int, .int | .int, .bool | .int, .str | .int, .list | .int, .tuple | .int, .non | .int, .dict => by decide +kernel
  | .bool, .int | .bool, .bool | .bool, .str | .bool, .list | .bool, .tuple | .bool, .non | .bool, .dict => by decide +kernel
  | .str, .int | .str, .bool | .str, .str | .str, .list | .str, .tuple | .str, .non | .str, .dict => by decide +kernel
  | .list, .int | .list, .bool | .list, .str | .list, .list | .list, .tuple | .list, .non | .list, .dict => by decide +kernel
  | .tuple, .int | .tuple, .bool | .tuple, .str | .tuple, .list | .tuple, .tuple | .tuple, .non | .tuple, .dict => by decide +kernel
  | .non, .int | .non, .bool | .non, .str | .non, .list | .non, .tuple | .non, .non | .non, .dict => by decide +kernel
  | .dict, .int | .dict, .bool | .dict, .str | .dict, .list | .dict, .tuple | .dict, .non | .dict, .dict => by decide +kernel
/-- the type of an object -/
structure ZTyp (K : PySem.W.Frag) (H : Hp) (a : Addr) (R : Tn → Prop) : Prop where
  out : ∃ t : Tn, TyX K H (.ref a) (.type t.nm) ∧ R t
def zTyp (K : PySem.W.Frag) (x : V) (H : Hp) (R : Tn → Prop) : Prop := match x with
  | .non => R .non
  | .bl _ => R .bool
  | .int _ => R .int
  | .str _ => R .str
  | .ref a => ZTyp K H a R
  | _ => False
def zIsR (K : PySem.W.Frag) (tn : Tn) : List V → Hp → VK → Prop := fun xs H Q => match xs with
  | [x, .ty n] => ZSide (n = tn.nm) (zTyp K x H fun t => Q (.bl (isT t tn)) H)
  | _ => False
theorem zIsR_ok {X : Cx} (tn : Tn) : CallR X (.builtin "isinstance") (zIsR X.K tn) := CallR.imp call_isi fun xs H Q q => by
  unfold zIsR at q
  split at q
  · rename_i x n
    obtain ⟨rfl, q⟩ := q
    have k : ∀ t : Tn, TyX X.K H x (.type t.nm) → Q (.bl (isT t tn)) H → rIsi X.K [x, .ty tn.nm] H Q := fun t h1 h2 => ⟨x, _, _, _, _, rfl, .ty _, h1, kit_ty (isT_ok t tn), h2⟩
    cases x with
    | non => exact k .non (.base .non) q
    | bl _ => exact k .bool (.base (.bl _)) q
    | int _ => exact k .int (.base (.int _)) q
    | str _ => exact k .str (.base (.str _)) q
    | ref a =>
      obtain ⟨t, h1, h2⟩ := ZTyp.out q
      exact k t h1 h2
    | _ => exact q.elim
  · exact q.elim
def zIsT (K : PySem.W.Frag) (tn : Tn) (ta : TE) : TE := fun σ H Q => ta σ H fun x H1 => zTyp K x H1 fun t => Q (.bl (isT t tn)) H1
theorem z_isT (tn : Tn) {X : Cx} {a : Expr} {ta : TE} {x : Str} {p p2 pos : Pos} (hi : X.mg "isinstance" = none) (hm : X.mg x = none) (ha : PE X a ta) (hv : bootBuiltins x = some (.type tn.nm) := by decide +kernel) (hg : Gl X "isinstance" := by rfl) (hgx : Gl X x := by rfl) (hn : x ≠ "__name__" := by decide) (hdb : (x == ("__debug__" : Str)) = false := by decide)
    (he : starEach [a, .Name x p2] X.env = (false, eval a X.env) :: starEach [.Name x p2] X.env := by rfl) (he2 : starEach [.Name x p2] X.env = (false, eval (.Name x p2) X.env) :: starEach [] X.env := by rfl) (hpl : (backTo pos (starEach [.Name x p2] X.env)).any (·.1) = false := by rfl) :
    PE X (.Call (.Name "isinstance" p) [a, .Name x p2] [] pos) (zIsT X.K tn ta) := by
  have h := pe_callB (X := X) (p := p) (pos := pos) (e := a) (es := [.Name x p2]) (zIsR_ok tn) hg hi (by decide +kernel : bootBuiltins "isinstance" = some (.builtin "isinstance")) (pa_cons ha (pa_cons (pe_bltn (v := .ty tn.nm) hgx hm hv rfl hn hdb) pa_nil he2) he) (by decide) (by decide) he hpl
  have e : tCB (zIsR X.K tn) (tCons ta (tCons (tC (.ty tn.nm)) tNil)) = zIsT X.K tn ta := by
    funext σ H Q
    refine congrArg (ta σ H) (funext fun y => funext fun H1 => ?_)
    exact propext ⟨fun q => ZSide.a q, fun q => ⟨rfl, q⟩⟩
  rw [← e]
  exact h
section
variable {K : PySem.W.Frag} {H : Hp} {cs ds : List Chunk} {a : Addr} {R : Tn → Prop}
theorem ztyp_l {xs : List V} (h : Own cs H) (m : pt a (.lst xs) ∈ cs) (r : R .list) : ZTyp K H a R := ⟨.list, .base (.lst (h.get m)), r⟩
theorem ztyp_f {ob : Obj} {xs : List V} (h : Own cs H) (m : pt a (.frz ob (.lst xs)) ∈ cs) (r : R .list) : ZTyp K H a R := ⟨.list, .base (.frz (h.get m)), r⟩
theorem ztyp_t {xs : List V} (h : Own cs H) (m : pt a (.tup xs) ∈ cs) (r : R .tuple) : ZTyp K H a R := ⟨.tuple, .base (.tup (h.get m)), r⟩
theorem ztyp_L {xs : List V} (h : SqL K H a xs) (r : R .list) : ZTyp K H a R := by
  rcases h with (h | ⟨o, h⟩) | ⟨o, its, n, h, c, _⟩
  · exact ⟨.list, .base (.lst h), r⟩
  · exact ⟨.list, .base (.frz h), r⟩
  · exact ⟨.list, .kList h c, r⟩
theorem ztyp_T {xs : List V} (h : SqT K H a xs) (r : R .tuple) : ZTyp K H a R := by
  rcases h with (h | ⟨o, h⟩) | ⟨o, its, n, h, c, _⟩
  · exact ⟨.tuple, .base (.tup h), r⟩
  · exact ⟨.tuple, .fTuple h, r⟩
  · exact ⟨.tuple, .kTuple h c, r⟩
end
/-! ### a def of the module, by its datum -/
theorem gfn_mk {m : Bool} {P : Program} {w : World} {K : PySem.W.Frag} {mg : Str → Option Value} {base : Heap} {x qual : Str} {params : Arguments} {body : List Stmt} {scope : Scope} {f : Addr} {N ps : List Str} {k : Nat} {sp : Sp} (hF : ∃ fd, FunD K x qual params body scope [] [] f fd) (hm : mg x = some (.ref f)) (S : FnScope N ps scope)
    (hb : ∀ (kV doc pm : Value) (an : Option Addr) (cdv ct : Value) (us : List Value), us.length = ps.length → bindArgs (PySem.W.fnOf x qual params body scope .none kV doc pm an cdv ct) ⟨us, []⟩ = pure (ps.zip us))
    (len : ∀ vs H Q E, sp vs H Q E → vs.length = ps.length)
    (hbody : ∀ (cdv : Value) (A : Around) (outer : List Env) (s : Shared) (H : Hp) (vs : List V) (Q : VK) (E : XK) (pn : List (Addr × Obj)), Cz m (bodyCx m P w K mg base N qual scope f cdv A outer s H E pn) (fun cls d _ H => E cls d H) k → sp vs H Q E →
      ∃ t, PSs (bodyCx m P w K mg base N qual scope f cdv A outer s H E pn) body t ∧ t { nx := fun _ H' => Q .non H', rt := Q } (start N vs) H) : GFn m P w K mg base (k + 1) x ps sp := by
  obtain ⟨fd, F⟩ := hF
  exact ⟨f, fd, fn_mk F S len hbody, hm, F.kp, F.bindsN hb⟩
/-! ### the step of a walk -/
theorem zif_p {c : Bool} {p A B : Prop} (e : c = true ↔ p) (t : p → A) (f : ¬ p → B) : ZIf (c = true) A B := ⟨fun h => t (e.mp h), fun h => f fun q => h (e.mpr q)⟩
theorem own_at {cs ds : List Chunk} {H : Hp} (h : Own cs H) (e : cs = ds) : Own ds H := e ▸ h
end Z

/-! ZHead: what the top leaves, told by a Hook of one's own: errors with super too -/
namespace Z
open PySem PySem.Spec PyProof.Rows L2
open He (ga ma ba)
/-! ### methods over a cell of their class -/
structure SupD where
  cls : Str
  meth : Str
  name : Str
  qual : Str
  params : Arguments
  body : List Stmt
  scope : Scope
abbrev FnS : Type := Option (Str × Str × Arguments × FuncBody × Scope × Addr × Addr)
def SupD.ad (K : PySem.W.Frag) (d : SupD) : Addr := ma K (ga K d.cls) d.meth
def fnS (K : PySem.W.Frag) (a : Addr) : FnS := match K.lookup a with
  | some ⟨_, _, .func fd, _⟩ => some (fd.name, fd.qualname, fd.params, fd.body, fd.scope, fd.globals, fd.builtins)
  | _ => none
def SupD.val (d : SupD) : FnS := some (d.name, d.qual, d.params, .stmts d.body, d.scope, mainGlobals, builtinsNs)
def noneB : Value → Bool
  | .none => true
  | _ => false
theorem noneB_ok {v : Value} (h : noneB v = true) : v = .none := by
  cases v <;> first | rfl | cases h
def fileB (P : Program) (K : PySem.W.Frag) (c : Addr) : Bool := match K.lookup c with
  | some ⟨_, _, .fields vs, _⟩ => (match (vs[2]? : Option Value) with
    | some (Value.str f _) => (P.main.file : Str) == f
    | _ => false)
  | _ => false
def cellB (K : PySem.W.Frag) (c D : Addr) : Bool := match K.lookup c with
  | some ⟨_, _, .cell (some (.ref E)), _⟩ => decide (E = D)
  | _ => false
def closB (P : Program) (K : PySem.W.Frag) (D : Addr) (q : Str) (fd : FuncData) : Bool := match fd.closure, fd.code with
  | [(n, cc)], .ref c => decide (n = ("__class__" : Str)) && (PySem.W.codeIn K (.ref c) q && (fileB P K c && cellB K cc D))
  | _, _ => false
def SupD.ok (P : Program) (K : PySem.W.Frag) (d : SupD) : Bool := match K.lookup (d.ad K) with
  | some ⟨oc, _, .func fd, _⟩ => decide (oc = .type "function") && (noneB fd.defaults && (noneB fd.kwdefaults && ((PySem.W.clsIn K (ga K d.cls)).isSome && closB P K (ga K d.cls) d.qual fd)))
  | _ => false
theorem fileB_ok {P : Program} {K : PySem.W.Frag} {c : Addr} (h : fileB P K c = true) : ∃ (cl : Value) (dd : Option Addr) (vs : Array Value) (sl : Array (Option Value)) (file : Str) (tf : Tok), K.lookup c = some ⟨cl, dd, .fields vs, sl⟩ ∧ vs[2]? = some (.str file tf) ∧ ((P.main.file : Str) == file) = true := by
  unfold fileB at h
  split at h
  · rename_i cl dd vs sl e
    split at h
    · rename_i f t e2
      exact ⟨_, _, _, _, _, _, e, e2, h⟩
    · cases h
  · cases h
theorem cellB_ok {K : PySem.W.Frag} {c D : Addr} (h : cellB K c D = true) : ∃ (cl : Value) (dd : Option Addr) (sl : Array (Option Value)), K.lookup c = some ⟨cl, dd, .cell (some (.ref D)), sl⟩ := by
  unfold cellB at h
  split at h
  · rename_i e
    rw [of_decide_eq_true h] at e
    exact ⟨_, _, _, e⟩
  · cases h
theorem supFn_ok {P : Program} {K : PySem.W.Frag} {d : SupD} (e : fnS K (d.ad K) = d.val) (h : d.ok P K = true) : ∃ cda cc fd, SupFn P K (ga K d.cls) (d.ad K) d.name d.qual d.params d.body d.scope cda cc fd := by
  unfold SupD.ok at h
  unfold fnS at e
  cases q : K.lookup (d.ad K) with
  | none =>
    rw [q] at h
    cases h
  | some o =>
    obtain ⟨oc, od, dt, osl⟩ := o
    rw [q] at h e
    cases dt with
    | func fd =>
      obtain ⟨n1, n2, n3, n4, n5, n6, n7, n8, n9, n10, n11, n12, n13, n14, n15⟩ := fd
      have e2 : (some (n1, n2, n3, n4, n5, n6, n15) : FnS) = some (d.name, d.qual, d.params, .stmts d.body, d.scope, mainGlobals, builtinsNs) := e
      simp only [Option.some.injEq, Prod.mk.injEq] at e2
      obtain ⟨h1, h2, h3, h4, h5, h6, h7⟩ := e2
      subst h1 h2 h3 h4 h5 h6 h7
      obtain ⟨k1, r1⟩ := ba h
      obtain ⟨k2, r2⟩ := ba r1
      obtain ⟨k3, r3⟩ := ba r2
      obtain ⟨k4, r4⟩ := ba r3
      have k2' : n8 = Value.none := noneB_ok k2
      have k3' : n9 = Value.none := noneB_ok k3
      clear h r1 r2 r3 k2 k3
      subst k2' k3'
      unfold closB at r4
      split at r4
      · rename_i n cc c q1 q2
        dsimp only at q1 q2
        subst q1 q2
        obtain ⟨g1, r5⟩ := ba r4
        obtain ⟨g2, r6⟩ := ba r5
        obtain ⟨g3, g4⟩ := ba r6
        have g1' := of_decide_eq_true g1
        subst g1'
        have ty : oc = Value.type "function" := of_decide_eq_true k1
        refine ⟨c, cc, _, ⟨⟨oc, od, _, _, _, _, osl, rfl, q⟩, g2, fileB_ok g3, cellB_ok g4, ?_, k4⟩⟩
        show (K.lookup (d.ad K)).map (fun o => o.cls) = _
        rw [q, ty]
        rfl
      · cases r4
    | _ => cases h
/-! ### own errors -/
def oexB (K : PySem.W.Frag) (C : Addr) : Bool := match K.lookup C with
  | some ⟨.type t, _, .cls cd, sl⟩ => (match cd.mro, sl.toList with
    | .ref C' :: bm, [_, _, _, _, some (.builtin n), _] => decide (t = "type") && (decide (C' = C) && (decide (n = "ValueError.__new__") && (!cd.hasDel && (cd.hasDict && PySem.HandSPX.refsVE bm))))
    | _, _ => false)
  | _ => false
theorem oexB_ok {K : PySem.W.Frag} {C : Addr} (h : oexB K C = true) : ∃ nm q N bs bm sn sub ab col dd k0 k1 k2 k3 k5, K.lookup C = some (excClassObj nm q C N bs bm true sn sub ab col dd k0 k1 k2 k3 k5 "ValueError.__new__") ∧ PySem.HandSPX.refsVE bm = true := by
  unfold oexB at h
  split at h
  · rename_i t dd cd sl e
    split at h
    · rename_i C' bm k0 k1 k2 k3 n k5 hm hs
      obtain ⟨h1, h⟩ := ba h
      obtain ⟨h2, h⟩ := ba h
      obtain ⟨h3, h⟩ := ba h
      obtain ⟨h4, h⟩ := ba h
      obtain ⟨h5, h6⟩ := ba h
      have h1' := of_decide_eq_true h1
      have h2' := of_decide_eq_true h2
      have h3' := of_decide_eq_true h3
      subst h1' h2' h3'
      obtain ⟨nm, bs, mro, ns, qn, hd, sn, sub, ab, col, del⟩ := cd
      dsimp only at hm h4 h5
      have h4' : del = false := by
        cases del with
        | false => rfl
        | true => cases h4
      subst hm h4' h5
      have hsl : sl = #[k0, k1, k2, k3, some (.builtin "ValueError.__new__"), k5] := by
        obtain ⟨l⟩ := sl
        simp only at hs
        rw [hs]
      subst hsl
      exact ⟨nm, qn, ns, bs, bm, sn, sub, ab, col, dd, k0, k1, k2, k3, k5, e, h6⟩
    · cases h
  · cases h
def eqV (a b : Option (Option Value)) : Bool := decide (a = b)
/-- the class C as an error -/
def erB (K : PySem.W.Frag) (C : Addr) : Bool :=
  oexB K C && (eqV (PySem.W.findIn K (.ref C) "__setattr__") (some (some (.builtin "object.__setattr__"))) && (decide (PySem.W.subIn K (.ref C) (.type "BaseException") = some true) && (decide (PySem.W.typeIn K (.ref C) = some (.type "type")) && PySem.W.keepIn K (.ref C))))
theorem erB_ok {K : PySem.W.Frag} {C : Addr} (h : erB K C = true) : OexC K C := by
  obtain ⟨h1, h⟩ := ba h
  obtain ⟨h2, h⟩ := ba h
  obtain ⟨h3, h⟩ := ba h
  obtain ⟨h4, h5⟩ := ba h
  exact ⟨oexB_ok h1, of_decide_eq_true h2, of_decide_eq_true h3, of_decide_eq_true h4, h5⟩
/-- super of a method of D, for an instance of C -/
def suB (K : PySem.W.Frag) (C D : Addr) (v : Value) : Bool :=
  decide (PySem.W.mroIn K C (.ref D) = some true) && (eqV (PySem.W.ks_superIn K C D "__init__") (some (some v)) && (decide (PySem.W.subIn K (.ref C) (.type "ValueError") = some true) && eqV (PySem.W.nsIn K cStatics "thirdparty.any") (some none)))
theorem suB_ok {P : Program} {K : PySem.W.Frag} {mg : Str → Option Value} {C D : Addr} {v : Value} (o : OexC K C) (h : suB K C D v = true) (sg : mg "super" = none) (top : (P.main.scope.names.lookup ("super" : Str)).isSome = false) : SupC P K mg C D v := by
  obtain ⟨h1, h⟩ := ba h
  obtain ⟨h2, h⟩ := ba h
  obtain ⟨h3, h4⟩ := ba h
  exact ⟨o, of_decide_eq_true h1, of_decide_eq_true h2, of_decide_eq_true h3, of_decide_eq_true h4, sg, top⟩
/-- isinstance of such an error -/
def isCB (K : PySem.W.Frag) (C : Addr) : Bool :=
  xfB K C && ((PySem.W.clsIn K C).isSome && (eqV (PySem.W.findIn K (.ref C) "__class__") (some (some (.builtin "object.__class__"))) && (eqV (PySem.W.specialIn K (.builtin "object.__class__") "__get__") (some (some (.builtin "getset_descriptor.__get__"))) && (decide (PySem.W.takesIn K (.builtin "object.__class__") = some true) && decide (PySem.W.mroIn K C (.type "object") = some true)))))
theorem isCB_ok {K : PySem.W.Frag} {C : Addr} (h : isCB K C = true) : IsC K C := by
  obtain ⟨h1, h⟩ := ba h
  obtain ⟨h2, h⟩ := ba h
  obtain ⟨h3, h⟩ := ba h
  obtain ⟨h4, h⟩ := ba h
  obtain ⟨h5, h6⟩ := ba h
  exact ⟨xfB_ok h1, h2, of_decide_eq_true h3, of_decide_eq_true h4, of_decide_eq_true h5, of_decide_eq_true h6⟩
/-- an error x whose __init__ is its own over the root r's, with these fields -/
def kidB (K : PySem.W.Frag) (x r : Str) (fs : List Str) : Bool :=
  erB K (ga K x) && (isCB K (ga K x) && (suB K (ga K x) (ga K x) (.ref (ma K (ga K r) "__init__")) && (suB K (ga K x) (ga K r) (.builtin "ValueError.__init__") && ((fs.all fun f => eqV (PySem.W.findIn K (.ref (ga K x)) f) (some none)) && (eqV (PySem.W.findIn K (.ref (ga K x)) "__init__") (some (some (.ref (ma K (ga K x) "__init__"))))
    && (decide (PySem.W.typeIn K (.ref (ma K (ga K x) "__init__")) = some (.type "function")) && (decide (PySem.W.typeIn K (.ref (ma K (ga K r) "__init__")) = some (.type "function")) && PySem.W.fnIn K (ma K (ga K r) "__init__"))))))))
structure Kid (K : PySem.W.Frag) (x r : Str) (fs : List Str) : Prop where
  o : OexC K (ga K x)
  is : IsC K (ga K x)
  s1 : suB K (ga K x) (ga K x) (.ref (ma K (ga K r) "__init__")) = true
  s2 : suB K (ga K x) (ga K r) (.builtin "ValueError.__init__") = true
  fs : ∀ f ∈ fs, PySem.W.findIn K (.ref (ga K x)) f = some none
  i : PySem.W.findIn K (.ref (ga K x)) "__init__" = some (some (.ref (ma K (ga K x) "__init__")))
  t1 : PySem.W.typeIn K (.ref (ma K (ga K x) "__init__")) = some (.type "function")
  t2 : PySem.W.typeIn K (.ref (ma K (ga K r) "__init__")) = some (.type "function")
  f2 : PySem.W.fnIn K (ma K (ga K r) "__init__") = true
theorem kidB_ok {K : PySem.W.Frag} {x r : Str} {fs : List Str} (h : kidB K x r fs = true) : Kid K x r fs := by
  obtain ⟨h1, h⟩ := ba h
  obtain ⟨h2, h⟩ := ba h
  obtain ⟨h3, h⟩ := ba h
  obtain ⟨h4, h⟩ := ba h
  obtain ⟨h5, h⟩ := ba h
  obtain ⟨h6, h⟩ := ba h
  obtain ⟨h7, h⟩ := ba h
  obtain ⟨h8, h9⟩ := ba h
  exact ⟨erB_ok h1, isCB_ok h2, h3, h4, fun f hf => of_decide_eq_true (List.all_eq_true.mp h5 f hf), of_decide_eq_true h6, of_decide_eq_true h7, of_decide_eq_true h8, h9⟩
section
variable {P : Program} {w : World} {K : PySem.W.Frag} {mg : Str → Option Value} {x r : Str} {qx qr nx nr : Str} {px pr : Arguments} {bx br : List Stmt} {sx sr : Scope} {f1 : Str} {fs : List Str} {psx psr : List Str} {ax ar : List Src} {stx : List (Str × Src)} {s1 : Src}
/-- x(..) makes the error -/
theorem kid_err (k : Kid K x r fs) (gx : mg x = some (.ref (ga K x))) (sg : mg "super" = none) (top : (P.main.scope.names.lookup ("super" : Str)).isSome = false)
    (Fx : ∃ cda cc fd, SupFn P K (ga K x) (ma K (ga K x) "__init__") nx qx px bx sx cda cc fd) (Fr : ∃ cda cc fd, SupFn P K (ga K r) (ma K (ga K r) "__init__") nr qr pr br sr cda cc fd)
    (Tx : InitTx psx ax stx px bx sx) (Tr : InitTx psr ar [(f1, s1)] pr br sr)
    (hbx : ∀ (doc pm : Value) (an : Option Addr) (cda : Addr) (ct : Value) (cc : Addr) (u : Value) (us : List Value), us.length = psx.length → bindArgs (PySem.W.ksFn nx qx px bx sx .none .none doc pm an (.ref cda) ct cc) ⟨u :: us, []⟩ = pure ((("self" : Str), u) :: psx.zip us))
    (hbr : ∀ (doc pm : Value) (an : Option Addr) (cda : Addr) (ct : Value) (cc : Addr) (u : Value) (us : List Value), us.length = psr.length → bindArgs (PySem.W.ksFn nr qr pr br sr .none .none doc pm an (.ref cda) ct cc) ⟨u :: us, []⟩ = pure ((("self" : Str), u) :: psr.zip us))
    (hf1 : f1 ∈ fs) (hfx : ∀ p ∈ stx, p.1 ∈ fs) (ha : ax.length = psr.length) (har : ar.length ≤ 100) (hst : stx.length ≤ 700) :
    ErrOk P w K mg x (ga K x) 2 psx.length (fun vs => stx.foldl (fun a p => (p.1, p.2.val vs) :: a) [(f1, s1.val (ax.map (Src.val vs)))]) := by
  obtain ⟨cda1, cc1, fd1, F1⟩ := Fx
  obtain ⟨cda2, cc2, fd2, F2⟩ := Fr
  have b1 : ∀ (u : Value) (us : List Value), us.length = psx.length → bindArgs fd1 ⟨u :: us, []⟩ = pure ((("self" : Str), u) :: psx.zip us) := by
    obtain ⟨_, _, doc, pm, an, ct, _, rfl, _⟩ := F1.lk
    exact hbx doc pm an cda1 ct cc1
  have b2 : ∀ (u : Value) (us : List Value), us.length = psr.length → bindArgs fd2 ⟨u :: us, []⟩ = pure ((("self" : Str), u) :: psr.zip us) := by
    obtain ⟨_, _, doc, pm, an, ct, _, rfl, _⟩ := F2.lk
    exact hbr doc pm an cda2 ct cc2
  have R : InitOk P w K mg (ga K x) (ma K (ga K r) "__init__") 1 psr.length (fun vs => [(f1, s1.val vs)]) := init_root F2 Tr b2 (suB_ok k.o k.s2 sg top) (k.fs f1 hf1) har
  have I := init_kid F1 Tx b1 (suB_ok k.o k.s1 sg top) (fun p hp => k.fs _ (hfx p hp)) R ha k.t2 k.f2 (fun ws => by show 1 + _ ≤ _; omega)
  exact ⟨k.o, gx, _, k.i, k.t1, I⟩
end
/-! ### defs at found places: getters, static and class methods -/
def prA (K : PySem.W.Frag) (C : Str) (f : Str) (i : Nat) : Addr := match PySem.W.recIn K (ma K (ga K C) f) "property" with
  | some l => (match l[i]? with
    | some (.ref g) => g
    | _ => 0)
  | none => 0
structure GetD where
  ad : PySem.W.Frag → Addr
  name : Str
  qual : Str
  params : Arguments
  body : List Stmt
  scope : Scope
def fnG (K : PySem.W.Frag) (a : Addr) : He.FnW := match K.lookup a with
  | some ⟨_, _, .func fd, _⟩ => some (fd.name, fd.qualname, fd.params, fd.body, fd.scope, fd.globals, fd.closure, fd.builtins)
  | _ => none
def GetD.val (d : GetD) : He.FnW := some (d.name, d.qual, d.params, .stmts d.body, d.scope, mainGlobals, [], builtinsNs)
def GetD.ok (K : PySem.W.Frag) (d : GetD) : Bool := PySem.W.keepIn K (.ref (d.ad K)) && (match K.lookup (d.ad K) with
  | some ⟨_, _, .func fd, _⟩ => PySem.W.codeIn K fd.code d.qual && (noneB fd.defaults && noneB fd.kwdefaults)
  | _ => false)
theorem getD_ok {K : PySem.W.Frag} {d : GetD} (e : fnG K (d.ad K) = d.val) (h : d.ok K = true) : ∃ fd, FunD K d.name d.qual d.params d.body d.scope [] [] (d.ad K) fd := by
  obtain ⟨kp, h⟩ := ba h
  unfold fnG at e
  cases q : K.lookup (d.ad K) with
  | none =>
    rw [q] at h
    cases h
  | some o =>
    obtain ⟨oc, od, dt, osl⟩ := o
    rw [q] at h e
    cases dt with
    | func fd =>
      obtain ⟨n1, n2, n3, n4, n5, n6, n7, n8, n9, n10, n11, n12, n13, n14, n15⟩ := fd
      have e2 : (some (n1, n2, n3, n4, n5, n6, n7, n15) : He.FnW) = some (d.name, d.qual, d.params, .stmts d.body, d.scope, mainGlobals, [], builtinsNs) := e
      simp only [Option.some.injEq, Prod.mk.injEq] at e2
      obtain ⟨h1, h2, h3, h4, h5, h6, h7, h8⟩ := e2
      subst h1 h2 h3 h4 h5 h6 h7 h8
      obtain ⟨k1, r1⟩ := ba h
      obtain ⟨k2, k3⟩ := ba r1
      have k2' : n8 = Value.none := noneB_ok k2
      have k3' : n9 = Value.none := noneB_ok k3
      clear h r1 k2 k3
      subst k2' k3'
      exact ⟨_, ⟨oc, od, _, _, n10, n11, n12, n13, n14, osl, rfl, q, k1, .inl ⟨rfl, rfl⟩, .inl rfl⟩, kp⟩
    | _ => cases h
/-- the property f of the class x, its getter -/
def propB (K : PySem.W.Frag) (x f : Str) : Bool :=
  eqV (PySem.W.findIn K (.ref (ga K x)) f) (some (some (.ref (ma K (ga K x) f)))) && (eqV (PySem.W.specialIn K (.ref (ma K (ga K x) f)) "__get__") (some (some (.builtin "property.__get__"))) && (decide (PySem.W.takesIn K (.ref (ma K (ga K x) f)) = some true)
    && (match PySem.W.recIn K (ma K (ga K x) f) "property" with
      | some (.ref g :: _) => decide (g = prA K x f 0)
      | _ => false)))
theorem propB_ok {K : PySem.W.Frag} {x f : Str} (h : propB K x f = true) : PropOf K (ga K x) f (ma K (ga K x) f) (prA K x f 0) := by
  obtain ⟨h1, h⟩ := ba h
  obtain ⟨h2, h⟩ := ba h
  obtain ⟨h3, h4⟩ := ba h
  refine ⟨of_decide_eq_true h1, of_decide_eq_true h2, of_decide_eq_true h3, ?_⟩
  split at h4
  · rename_i g rest e
    rw [of_decide_eq_true h4] at e
    exact ⟨rest, e⟩
  · cases h4
/-- what isinstance asks of a class of plain instances -/
def ownB (K : PySem.W.Frag) (C : Addr) : Bool :=
  eqV (PySem.W.findIn K (.ref C) "__class__") (some (some (.builtin "object.__class__"))) && (eqV (PySem.W.specialIn K (.builtin "object.__class__") "__get__") (some (some (.builtin "getset_descriptor.__get__"))) && (decide (PySem.W.takesIn K (.builtin "object.__class__") = some true) && (decide (PySem.W.mroIn K C (.type "object") = some true)
    && (decide (PySem.W.kitOne K (.ref C) (.ref C) = some true) && PySem.W.selfFirst K C))))
structure OwnI (K : PySem.W.Frag) (C : Addr) : Prop where
  ca : PySem.W.findIn K (.ref C) "__class__" = some (some (.builtin "object.__class__"))
  cn : PySem.W.specialIn K (.builtin "object.__class__") "__get__" = some (some (.builtin "getset_descriptor.__get__"))
  ct : PySem.W.takesIn K (.builtin "object.__class__") = some true
  cm : PySem.W.mroIn K C (.type "object") = some true
  ki : PySem.W.kitOne K (.ref C) (.ref C) = some true
  sf : PySem.W.selfFirst K C = true
theorem ownB_ok {K : PySem.W.Frag} {C : Addr} (h : ownB K C = true) : OwnI K C := by
  obtain ⟨h1, h⟩ := ba h
  obtain ⟨h2, h⟩ := ba h
  obtain ⟨h3, h⟩ := ba h
  obtain ⟨h4, h⟩ := ba h
  obtain ⟨h5, h6⟩ := ba h
  exact ⟨of_decide_eq_true h1, of_decide_eq_true h2, of_decide_eq_true h3, of_decide_eq_true h4, of_decide_eq_true h5, h6⟩
/-- a tuple of the top -/
def ktB (K : PySem.W.Frag) (x : Str) (vs : List He.Dv) : Bool := match K.lookup (ga K x) with
  | some ⟨.type c, none, .seq its _, _⟩ => decide (c = "tuple") && (decide (its.size ≤ sizeLine) && He.relAll (vs.map (He.Dv.v K)) its.toList)
  | _ => false
structure KTup (K : PySem.W.Frag) (p : Addr) (vs : List V) : Prop where
  sq : ∀ H, SqT K H p vs
  ty : ∀ H, tyV K "tuple" (.ref p) H
theorem ktB_ok {K : PySem.W.Frag} {x : Str} {vs : List He.Dv} (h : ktB K x vs = true) : KTup K (ga K x) (vs.map (He.Dv.v K)) := by
  unfold ktB at h
  split at h
  · rename_i c its n sl e
    obtain ⟨h1, h⟩ := ba h
    obtain ⟨h2, h3⟩ := ba h
    have h1' := of_decide_eq_true h1
    subst h1'
    exact ⟨fun H => .inr ⟨_, its, n, e, rfl, rfl, of_decide_eq_true h2, He.relAll_ok h3⟩, fun H => .inr (.inl ⟨rfl, _, e, rfl, rfl⟩)⟩
  · cases h
/-! ### the Hook -/
abbrev AlZ : Type := He.AlT × (Bool × (List FnS × List He.FnW))
def obsZ (P : Program) (fa : List He.Fa) (fn : List He.DefD) (ts : List He.Tab) (su : List SupD) (gd : List GetD) (ex : List (PySem.W.Frag → Bool)) (K : PySem.W.Frag) : AlZ := (He.obsT fa fn ts K, ((ex.all fun b => b K) && ((su.all fun d => d.ok P K) && gd.all fun d => d.ok K), (su.map fun d => fnS K (d.ad K), gd.map fun d => fnG K (d.ad K))))
def valZ (fn : List He.DefD) (ts : List He.Tab) (su : List SupD) (gd : List GetD) (w : World) : AlZ := (He.valT fn ts w, (true, (su.map SupD.val, gd.map GetD.val)))
def SaysZ (P : Program) (fa : List He.Fa) (fn : List He.DefD) (ts : List He.Tab) (su : List SupD) (gd : List GetD) (ex : List (PySem.W.Frag → Bool)) (w : World) (K : PySem.W.Frag) : Prop := obsZ P fa fn ts su gd ex K = valZ fn ts su gd w
def obsZG (P : Program) (n : Nat) (fa : List He.Fa) (fn : List He.DefD) (ts : List He.Tab) (su : List SupD) (gd : List GetD) (ex : List (PySem.W.Frag → Bool)) (g : Addr → Option Obj) : AlZ := obsZ P fa fn ts su gd ex (He.frG g (cStatics :: He.asD g n))
def hookZ (P : Program) (n : Nat) (fa : List He.Fa) (fn : List He.DefD) (ts : List He.Tab) (su : List SupD) (gd : List GetD) (ex : List (PySem.W.Frag → Bool)) : PySem.W.Hook where
  α := AlZ
  obs := fun s => obsZG P n fa fn ts su gd ex s.heap.get?
  val := fun w => valZ fn ts su gd w
  says := fun w h => ∃ K : PySem.W.Frag, K.In h ∧ SaysZ P fa fn ts su gd ex w K
  of := fun _ _ e => ⟨_, He.frG_in, e⟩
  keeps := fun _ _ _ ⟨K, hK, c⟩ k => ⟨K, PySem.W.Frag.In.keeps hK k, c⟩
theorem obsZG_eq {P : Program} {n : Nat} {fa : List He.Fa} {fn : List He.DefD} {ts : List He.Tab} {su : List SupD} {gd : List GetD} {ex : List (PySem.W.Frag → Bool)} {g : Addr → Option Obj} {s : Shared} (h : ∀ a, g a = s.heap.get? a) : obsZG P n fa fn ts su gd ex g = (hookZ P n fa fn ts su gd ex).obs s := by
  have e : g = s.heap.get? := funext h
  rw [e] <;> rfl
section
variable {P : Program} {w : World} {fa : List He.Fa} {fn : List He.DefD} {ts : List He.Tab} {su : List SupD} {gd : List GetD} {ex : List (PySem.W.Frag → Bool)} {K : PySem.W.Frag}
theorem SaysZ.t (c : SaysZ P fa fn ts su gd ex w K) : He.SaysT fa fn ts w K := congrArg (fun z : AlZ => z.1) c
theorem SaysZ.d (c : SaysZ P fa fn ts su gd ex w K) : He.SaysD fa fn K := c.t.d
theorem SaysZ.b (c : SaysZ P fa fn ts su gd ex w K) : ((ex.all fun b => b K) && ((su.all fun d => d.ok P K) && gd.all fun d => d.ok K)) = true := congrArg (fun z : AlZ => z.2.1) c
theorem SaysZ.e (c : SaysZ P fa fn ts su gd ex w K) (i : Nat) {b : PySem.W.Frag → Bool} (h : ex[i]? = some b := by rfl) : b K = true := List.all_eq_true.mp (ba c.b).1 b (List.mem_of_getElem? h)
theorem SaysZ.s (c : SaysZ P fa fn ts su gd ex w K) (i : Nat) {d : SupD} (h : su[i]? = some d := by rfl) : ∃ cda cc fd, SupFn P K (ga K d.cls) (ma K (ga K d.cls) d.meth) d.name d.qual d.params d.body d.scope cda cc fd := by
  have c2 := (ba (ba c.b).2).1
  have e : su.map (fun d => fnS K (d.ad K)) = su.map SupD.val := congrArg (fun z : AlZ => z.2.2.1) c
  have e2 : (su.map fun d => fnS K (d.ad K))[i]? = (su.map SupD.val)[i]? := by rw [e]
  rw [List.getElem?_map, List.getElem?_map, h] at e2
  exact supFn_ok (Option.some.inj e2) (List.all_eq_true.mp c2 d (List.mem_of_getElem? h))
theorem SaysZ.g (c : SaysZ P fa fn ts su gd ex w K) (i : Nat) {d : GetD} (h : gd[i]? = some d := by rfl) : ∃ fd, FunD K d.name d.qual d.params d.body d.scope [] [] (d.ad K) fd := by
  have c2 := (ba (ba c.b).2).2
  have e : gd.map (fun d => fnG K (d.ad K)) = gd.map GetD.val := congrArg (fun z : AlZ => z.2.2.2) c
  have e2 : (gd.map fun d => fnG K (d.ad K))[i]? = (gd.map GetD.val)[i]? := by rw [e]
  rw [List.getElem?_map, List.getElem?_map, h] at e2
  exact getD_ok (Option.some.inj e2) (List.all_eq_true.mp c2 d (List.mem_of_getElem? h))
end
end Z

/-! Z4: rules with K told, loops over texts -/
namespace Z
open PySem PySem.Spec PyProof.Rows L2
section
variable {m : Bool} {X : Cx} {W : WX} {k : Nat} {a b c e l : Expr} {es : List Expr} {ta tb te tl : TE} {t : TA} {pos : Pos} {rest body : List Stmt} (K : PySem.W.Frag) (hK : X.K = K)
include hK
theorem k_in : OpR X (compareOp .In) (zIn K false) := by
  subst hK
  exact zIn_ok
theorem k_notin : OpR X (compareOp .NotIn) (zIn K true) := by
  subst hK
  exact zNotIn_ok
theorem k_len : CallR X (.builtin "len") (zLen K) := by
  subst hK
  exact zLen_ok
theorem k_list : CallR X (.type "list") (zListF K) := by
  subst hK
  exact zListF_ok
theorem k_isT (tn : Tn) {x : Str} {p p2 : Pos} (hi : X.mg "isinstance" = none) (hm : X.mg x = none) (ha : PE X a ta) (hv : bootBuiltins x = some (.type tn.nm) := by decide +kernel) (hg : Gl X "isinstance" := by rfl) (hgx : Gl X x := by rfl) (hn : x ≠ "__name__" := by decide) (hdb : (x == ("__debug__" : Str)) = false := by decide)
    (he : starEach [a, .Name x p2] X.env = (false, eval a X.env) :: starEach [.Name x p2] X.env := by rfl) (he2 : starEach [.Name x p2] X.env = (false, eval (.Name x p2) X.env) :: starEach [] X.env := by rfl) (hpl : (backTo pos (starEach [.Name x p2] X.env)).any (·.1) = false := by rfl) :
    PE X (.Call (.Name "isinstance" p) [a, .Name x p2] [] pos) (zIsT K tn ta) := by
  subst hK
  exact z_isT tn hi hm ha hv hg hgx hn hdb he he2 hpl
theorem k_t (ha : PE X a ta) (he : ∀ whole, isTrue a X.env whole = (do let v ← whole; standAt a.pos; holding [v] (truthy v)) := by intro _; rfl) : PT X a (zT K ta) := by
  subst hK
  exact z_t ha he
theorem k_ix (ha : PE X a ta) (hb : PE X b tb) (hs : PlainIx b := by intro _ _; rfl) : PE X (.Subscript a b pos) (tOp (zIx K) ta tb) := by
  subst hK
  exact z_ix ha hb hs
theorem k_sl {lo hi : Option Expr} {tlo th : TO} {p2 : Pos} (he : PE X e te) (hl : PO X lo tlo) (hu : PO X hi th) : PE X (.Subscript e (.Slice lo hi none p2) pos) (tSl (zSlc K) te tlo th) := by
  subst hK
  exact z_sl he hl hu
theorem k_meth {o : Expr} {to : TE} {name : Str} {apos : Pos} {T id : String} {r : V → List V → Hp → VK → Prop} (pa : PlainAttrs T) (slot : Slot T name id) (hty : typeOf (.builtin id) = pure (.type "method_descriptor")) (hm : MtR X id r) (ho : PE X o to) (ha : PA X (e :: es) t)
    (hbase : attributeBase o name X.env (eval o X.env) = eval o X.env := by rfl)
    (hfew : ((backTo pos (starEach (e :: es) X.env)).all (fun x => !x.1) && (backToKw pos (keywordEach [] X.env)).all (fun x => x.1.isSome) && decide ((e :: es).length + ([] : List Keyword).length + (if ([] : List Keyword).isEmpty then 0 else 1) < 30)) = true := by rfl)
    (hline : (apos.endLine == pos.line) = true := by rfl) (hs : starEach (e :: es) X.env = (false, eval e X.env) :: starEach es X.env := by rfl) (hplain : (backTo pos (starEach es X.env)).any (·.1) = false := by rfl) : PE X (.Call (.Attribute o name apos) (e :: es) [] pos) (zMeth K T r to t) := by
  subst hK
  exact z_meth pa slot hty hm ho ha hbase hfew hline hs hplain
theorem k_meth0 {o : Expr} {to : TE} {name : Str} {apos : Pos} {T id : String} {r : V → List V → Hp → VK → Prop} (pa : PlainAttrs T) (slot : Slot T name id) (hty : typeOf (.builtin id) = pure (.type "method_descriptor")) (hm : MtR X id r) (ho : PE X o to)
    (hbase : attributeBase o name X.env (eval o X.env) = eval o X.env := by rfl) (hline : (apos.endLine == pos.line) = true := by rfl) : PE X (.Call (.Attribute o name apos) [] [] pos) (zMeth0 K T r to) := by
  subst hK
  exact z_meth0 pa slot hty hm ho hbase hline
theorem k_itS {tg : Expr} (hl : PE X l tl) : PI X tg l (zItS K tl) := by
  subst hK
  exact z_itS hl
theorem k_try {x n : Str} {cv : Value} {i : Nat} {suite : List Stmt} {b₀ : Stmt} {np pos' : Pos} {tb : WX → TS} {ts : Addr → Value → Option Addr → TS} (cz : Cz true X W k) (hN : X.N.Nodup) (hc : Names X x cv)
    (hb : ∀ (W' : WX) (pn : List (Addr × Obj)) (xe : Value → Shared → Prop), Cz true (X.tr pn xe) W' k → PSs (X.tr pn xe) body (tb W'))
    (hsu : ∀ (a : Addr) (oe : Obj) (cls : Value) (d : Option Addr) (pn : List (Addr × Obj)), L2N.Zn cls d oe → (∃ vs, oe.data = .fields vs) → Cz false (X.suite a ((a, oe) :: pn)) (fun _ _ _ _ => False) k → PSs (X.suite a ((a, oe) :: pn)) (b₀ :: suite) (ts a cls d))
    (hi : X.N[i]? = some n := by rfl) (hln : X.env.kindOf n = some .local := by rfl) :
    PS X (.Try body [.ExceptHandler (some (.Name x np)) (some n) (b₀ :: suite) pos'] [] [] pos) (fun D σ H => tb (zWas K cv i ts W D) D σ H) := by
  subst hK
  exact z_try cz hN hc hb hsu hi hln
end
/-- e.field of the error of a suite -/
def zXf (K : PySem.W.Frag) (a : Addr) (cls : Value) (d : Option Addr) (f : Str) (te : TE) : TE := fun σ H Q => te σ H fun x H1 => ZXf K a cls d f x H1 fun v => Q v H1
theorem k_xf (K : PySem.W.Frag) {X : Cx} {a : Addr} {oe : Obj} {cls : Value} {d : Option Addr} {pn : List (Addr × Obj)} {e : Expr} {te : TE} {pos : Pos} {f : Str} (hK : X.K = K) (hz : L2N.Zn cls d oe) (hf : ∃ vs, oe.data = .fields vs) (he : PE (X.suite a ((a, oe) :: pn)) e te) (hb : attributeBase e f X.env (eval e X.env) = eval e X.env := by rfl) :
    PE (X.suite a ((a, oe) :: pn)) (.Attribute e f pos) (zXf K a cls d f te) := by
  subst hK
  exact z_xf hz hf he hb
theorem k_isE (K : PySem.W.Frag) {X : Cx} {a : Addr} {oe : Obj} {cls : Value} {d : Option Addr} {pn : List (Addr × Obj)} (hK : X.K = K) (hz : L2N.Zn cls d oe) (hf : ∃ vs, oe.data = .fields vs) : CallR (X.suite a ((a, oe) :: pn)) (.builtin "isinstance") (zIsE K a cls d) := by
  subst hK
  exact zIsE_ok hz hf
/-! a list, a tuple, a text is walked -/
def zIt (K : PySem.W.Frag) (tl : TE) : TI := fun σ H R => tl σ H fun x H1 => match x with
  | .ref a => ZSq K H1 a fun b _ => match b with
    | true => R (Itl K a) H1
    | false => R (Itt K a) H1
  | .str z => R (Its z) H1
  | _ => False
theorem z_it {X : Cx} {tg l : Expr} {tl : TE} (hl : PE X l tl) : PI X tg l (zIt X.K tl) := by
  constructor
  intro pins s σ H R I h
  refine thn (hl.run pins s σ H _ I h) fun v s1 hh => ?_
  obtain ⟨x, H1, I1, r1, q1⟩ := hh
  cases x with
  | ref a =>
    cases r1
    have fp : ∀ (o : Obj), ∀ b ∈ [s1.heap.objs.size], FpOk X pins H1 b := fun o b hb => by
      rw [List.mem_singleton.mp hb]
      exact I1.fpOk (Nat.le_refl _) (I1.hok.fresh (Nat.le_refl _))
    obtain ⟨xs, ⟨hq, q⟩ | ⟨hq, q⟩⟩ := zsq_or q1
    · obtain ⟨its, rv, p, hz⟩ := I1.list hq
      exact wpAny_pyIter_list p.isList ⟨_, _, _, _, H1, rfl, I1.kept (t' := s1.toks) fun b o z => Heap.get?_push_of_some _ z, turn_list a _, ⟨_, Heap.get?_push_size _ rfl, rfl, rfl⟩, fp default, q⟩
    · obtain ⟨its, rv, p, hz⟩ := I1.tuple hq
      exact wpAny_pyIter_tuple (show s1.heap.IsTuple a its.toArray from p) ⟨_, _, _, _, H1, rfl, I1.kept (t' := s1.toks) fun b o z => Heap.get?_push_of_some _ z, turn_tuple a _, ⟨_, Heap.get?_push_size _ rfl, rfl, rfl⟩, fp default, q⟩
  | str z =>
    obtain ⟨tk, e⟩ := r1
    subst e
    have q2 : R (Its z) H1 := q1
    cases hc : z.cps.all (· < 128) with
    | false =>
      have tn := turn_str (P := X.prog) (w := X.w) (K := X.K) (tg := tg) s1.heap.objs.size z tk "str_iterator" (.inr rfl)
      exact wpAny_pyIter_wide hc (pi_one (tk := s1.toks) I1 _ tn ⟨_, Heap.get?_push_size _ rfl, rfl, rfl⟩ q2)
    | true =>
      have tn := turn_str (P := X.prog) (w := X.w) (K := X.K) (tg := tg) s1.heap.objs.size z tk "str_ascii_iterator" (.inl rfl)
      exact wpAny_pyIter_ascii hc (pi_one (tk := s1.toks) I1 _ tn ⟨_, Heap.get?_push_size _ rfl, rfl, rfl⟩ q2)
  | _ => exact q1.elim
theorem k_it (K : PySem.W.Frag) {X : Cx} {tg l : Expr} {tl : TE} (hK : X.K = K) (hl : PE X l tl) : PI X tg l (zIt K tl) := by
  subst hK
  exact z_it hl
theorem zloop_s {g : TG} {tb : TS} {z : Str} {D : Ends} {σ : St} {H : Hp} (Pv : Nat → St → Hp → Prop) (h0 : Pv 0 σ H)
    (hs : ∀ i c σ H, z.cps.toList[i]? = some c → Pv i σ H → g (.str ⟨#[c]⟩) σ H fun σ2 H2 => tb { D with nx := Pv (i + 1), ct := Pv (i + 1), bk := D.nx } σ2 H2)
    (hd : ∀ σ H, Pv z.cps.toList.length σ H → D.nx σ H) : ZLoop (Its z) g tb D σ H := by
  refine ⟨⟨fun i m σ H => m = z.cps.size - i ∧ i ≤ z.cps.size ∧ Pv i σ H, ⟨_, rfl, Nat.zero_le _, h0⟩, fun i m σ H ⟨hm, hi, p⟩ => ?_⟩⟩
  by_cases hlt : i < z.cps.size
  · refine .inr ⟨hlt, Pv (i + 1), fun σ' H' q => ⟨_, ?_, rfl, hlt, q⟩, fun x H' hy => ?_⟩
    · omega
    · obtain ⟨rfl, c, hc, rfl⟩ := hy
      refine hs i c σ _ ?_ p
      rw [← hc]
      simp
  · have e : i = z.cps.toList.length := by
      rw [Array.length_toList]
      omega
    refine .inl ⟨by show z.cps.size ≤ i; omega, hd σ H ?_⟩
    rw [← e]
    exact p

end Z
namespace Z
open L2
theorem zcmul_r {i j : Int} (h : j.natAbs < 2 ^ 64) : CMul i j := .inr (by omega)
end Z
namespace Z
open PySem PySem.Spec PyProof.Rows L2
theorem zsq_L {K : PySem.W.Frag} {H : Hp} {a : Addr} {xs : List V} {R : Bool → List V → Prop} (h : SqL K H a xs) (r : R true xs) : ZSq K H a R := ⟨true, xs, h, r⟩
theorem zsq_T {K : PySem.W.Frag} {H : Hp} {a : Addr} {xs : List V} {R : Bool → List V → Prop} (h : SqT K H a xs) (r : R false xs) : ZSq K H a R := ⟨false, xs, h, r⟩
theorem atI_nat {α : Type} {xs : List α} {i : Nat} {x : α} (h : xs[i]? = some x) : atI xs (i : Int) = some x := by
  have hlt := (List.getElem?_eq_some_iff.mp h).1
  unfold atI ixN
  rw [if_pos (by omega), if_pos (by omega), Option.bind_some, Int.toNat_natCast, h]
theorem atI_0 {α : Type} {xs : List α} {i : Nat} {x : α} (h : xs[i]? = some x) : atI xs (0 + (i : Int)) = some x := by
  rw [Int.zero_add]
  exact atI_nat h
end Z
namespace Z
theorem zcmul_l {i j : Int} (h : i.natAbs < 2 ^ 64) : L2.CMul i j := .inl (by omega)
end Z
namespace Z
open PySem PySem.Spec PyProof.Rows L2
section
variable {K : PySem.W.Frag} {H : Hp} {cs : List Chunk} {a dd C : Addr} {fs : List (Str × V)}
theorem zise {c : V} {u : Value} {b : Bool} {R : Bool → Prop} (h : Own cs H) (m : pt dd (.xd fs) ∈ cs) (is : IsC K C) (ck : ClsV c u) (e : PySem.W.kitOne K (.ref C) u = some b) (r : R b) : ZIsE K a (.ref C) (some dd) (.ref a) c H R := ⟨C, dd, fs, u, b, rfl, rfl, is, rfl, h.get m, ck, e, r⟩
theorem zxf {f : Str} {v : V} {R : V → Prop} (h : Own cs H) (m : pt dd (.xd fs) ∈ cs) (is : IsC K C) (n : PySem.W.findIn K (.ref C) f = some none) (l : fs.lookup f = some v) (r : R v) : ZXf K a (.ref C) (some dd) f (.ref a) H R := ⟨C, dd, fs, v, rfl, rfl, is.xf, n, rfl, h.get m, l, r⟩
theorem zexm {cls c : Value} {b : Bool} {R : Bool → Prop} (e : PySem.W.exmOne K cls c = some b) (r : R b) : ZExm K cls c R := ⟨b, e, r⟩
end
end Z
namespace Z
open PySem PySem.Spec PyProof.Rows L2
/-- a def that lets nothing out, whatever is told of errors -/
theorem fn_quiet {P : Program} {w : World} {K : PySem.W.Frag} {mg : Str → Option Value} {base : Heap} {k : Nat} {f : Addr} {fd : FuncData} {ps : List Str} {sp : Sp} (F : Fn true P w K mg base k f fd ps sp) (hE : ∀ vs H Q E, sp vs H Q E → sp vs H Q fun _ _ _ => False) : FnOk P w K mg base CX0 k f fd ps sp := by
  have F' : FnOk P w K mg base (L2N.CX P w) k f fd ps sp := F
  refine ⟨F'.len, fun A outer s H args us vs Q E hr h0 hb hv hs => codeAny_mono (F'.run A outer s H args us vs Q (fun _ _ _ => False) hr h0 hb hv (hE _ _ _ _ hs)) fun r s' q => ?_⟩
  cases r with
  | ok v =>
    cases v with
    | ret u => exact q
    | _ => exact q.elim
  | error e =>
    obtain ⟨_, _, _, _, _, _, _, _, _, _, _, _, z⟩ := q
    exact z.elim
end Z

/-! ZCls: own classes: instances, methods, properties, own operators -/
namespace Z
open PySem PySem.Spec PyProof.Rows L2
/-- a def at an address, all parameters given -/
structure MFn (P : Program) (w : World) (K : PySem.W.Frag) (mg : Str → Option Value) (base : Heap) (k : Nat) (g : Addr) (ps : List Str) (sp : Sp) : Prop where
  ex : ∃ fd, FnOk P w K mg base (L2N.CX P w) k g fd ps sp ∧ Binds K fd ps []
section
variable {X : Cx} {W : WX} {k : Nat} {pins : List (Addr × Obj)} {σ : L2.St} {H : Hp} {s : Shared} {Q : VK} {us : List Value} {vs : List V} {g C : Addr} {ps : List Str} {sp : Sp}
/-- the callee runs below the running body -/
theorem mrun {A : Around} (F : MFn X.prog X.w X.K X.mg X.base k g ps sp) (hr : Room k A) (e0 : Env0 X.prog X.w X.K X.mg X.base A X.stack s H) (tk : L2N.Takes X W) (I : Inv X pins σ H s) (r : Vals vs us) (h : sp vs H Q fun cls d H' => W cls d σ H') :
    codeAny (model X.prog X.w) A (.call (.ref g) ⟨us, []⟩) (fun r s' => match r with | .ok (.ret v) => EP X pins σ Q v s' | .ok _ => False | .error e => X.xe e s') s := by
  obtain ⟨fd, F, hb⟩ := F.ex
  have hl : (us ++ ([] : List Value)).length = ps.length := by rw [List.append_nil, ← r.length]; exact F.len _ _ _ _ h
  have b := hb s us I.kIn hl
  rw [List.append_nil] at b
  refine codeAny_mono (F.run A X.stack s H ⟨us, []⟩ us vs Q _ hr e0 b r h) fun r s' hq => ?_
  cases r with
  | error e => exact L2N.passAt tk σ pins H s e s' I hq
  | ok fl => cases fl <;> first | exact I.after hq | exact False.elim hq
theorem mcall (F : MFn X.prog X.w X.K X.mg X.base k g ps sp) (hr : Room k X.A) (tk : L2N.Takes X W) (I : Inv X pins σ H s) (r : Vals vs us) (h : sp vs H Q fun cls d H' => W cls d σ H') :
    wpAny (model X.prog X.w) X.A (call (.ref g) us) (EP X pins σ Q) X.xe s := wpAny_call (mrun F hr I.env0 tk I r h)
end
/-! ### instances are made -/
structure ZMake (H : Hp) (C : Addr) (R : Addr → Hp → Prop) : Prop where
  out : ∀ x dx, H x = none → H dx = none → dx ≠ x → R x (upd (upd H dx (.own x)) x (.ins C dx []))
theorem zmake {H : Hp} {C : Addr} {cs : List Chunk} {R : Addr → Hp → Prop} (h : Own cs H) (r : ∀ x dx H', Own (pt x (.ins C dx []) :: pt dx (.own x) :: cs) H' → R x H') : ZMake H C R :=
  ⟨fun x dx nx nd ne => r x dx _ ((h.new nd).new (by rw [upd_ne ne.symm]; exact nx))⟩
def zMake (C : Addr) (sp : Sp) (W : WX) (t : TA) : TE := fun σ H Q => t σ H fun vs H1 => ZMake H1 C fun x H2 => ZCall sp (.ref x :: vs) H2 (fun v H3 => v = .non ∧ Q (.ref x) H3) fun cls d H' => W cls d σ H'
section
variable {m : Bool} {X : Cx} {W : WX} {k j : Nat} {e o a b : Expr} {es : List Expr} {ta tb te : TE} {t : TA} {p pos apos : Pos} {g C : Addr} {ps : List Str} {sp : Sp}
theorem z_make {x : Str} (cz : Ce true X W k) (M : Mk X.K C g) (F : MFn X.prog X.w X.K X.mg X.base j g ps sp) (hj : j + 1 ≤ k) (hm : X.mg x = some (.ref C)) (ha : PA X (e :: es) t) (hg : Gl X x := by rfl) (hdb : (x == ("__debug__" : Str)) = false := by decide)
    (he : starEach (e :: es) X.env = (false, eval e X.env) :: starEach es X.env := by rfl) (hpl : (backTo pos (starEach es X.env)).any (·.1) = false := by rfl) : PE X (.Call (.Name x p) (e :: es) [] pos) (zMake C sp W t) := by
  have hr : Room (j + 1) X.A := cz.room.mono hj
  constructor
  intro pins s σ H Q I h
  refine wpAny_Call_Name_kw (ld_glob I hg hm ?_ hdb)
  refine PySem.W.callWith_K (h₀ := X.base) I.ok.mod.kin M.kp (thn (ha.run pos pins s σ H _ I h) fun us s1 hh => ?_) he hpl
  obtain ⟨vs, H1, I1, r, q⟩ := hh
  refine ⟨I1.kIn, ?_⟩
  have q2 := (q.out (s1.heap.objs.size + 1) s1.heap.objs.size (I1.hok.fresh (Nat.le_succ _)) (I1.hok.fresh (Nat.le_refl _)) (Nat.ne_of_lt (Nat.lt_succ_self _))).out
  have I2 := Inv.made (C := C) I1
  refine wpAny_call (make_map (f := g) I1.kIn M.makes M.init (beq_iff_eq.mp M.fn) (codeAny_mono (mrun F (hr.make C us []) (I2.env0.make C us []) cz.tk I2 (.cons (show L2.RelV (.ref (s1.heap.objs.size + 1)) (.ref (s1.heap.objs.size + 1)) from rfl) r) q2) fun r2 s2 z => ?_))
  cases r2 with
  | error er => exact z
  | ok fl =>
    cases fl <;> first | exact z.elim | skip
    obtain ⟨v, H3, I3, rv, ev, q3⟩ := z
    subst ev
    exact ⟨rv, .ref (s1.heap.objs.size + 1), H3, I3, rfl, q3⟩
/-! ### attributes -/
structure ZFl (K : PySem.W.Frag) (C : Addr) (f : Str) (fs : List (Str × V)) (R : V → Prop) : Prop where
  out : Cls K C ∧ NoAttr K C f ∧ ∃ v, fs.lookup f = some v ∧ R v
def zIns (x : V) (H : Hp) (R : Addr → Addr → Addr → List (Str × V) → Prop) : Prop := match x with
  | .ref a => ZGet H a fun o => match o with
    | .ins C dx fs => R a C dx fs
    | _ => False
  | _ => False
theorem zIns_of {x : V} {H : Hp} {R : Addr → Addr → Addr → List (Str × V) → Prop} (h : zIns x H R) : ∃ a C dx fs, x = .ref a ∧ H a = some (.ins C dx fs) ∧ R a C dx fs := by
  cases x with
  | ref a =>
    obtain ⟨o, e, q⟩ := ZGet.out h
    cases o with
    | ins C dx fs => exact ⟨a, C, dx, fs, rfl, e, q⟩
    | _ => exact q.elim
  | _ => exact h.elim
def zFld (K : PySem.W.Frag) (f : Str) (ta : TE) : TE := fun σ H Q => ta σ H fun x H1 => zIns x H1 fun _ C _ fs => ZFl K C f fs fun v => Q v H1
theorem z_fld {f : Str} (K : PySem.W.Frag) (hK : X.K = K) (he : PE X e ta) (hb : attributeBase e f X.env (eval e X.env) = eval e X.env := by rfl) : PE X (.Attribute e f pos) (zFld K f ta) := by
  subst hK
  constructor
  intro pins s σ H Q I h
  refine attr_of hb (thn (he.run pins s σ H _ I h) fun u s1 hh => ?_)
  obtain ⟨x, H1, I1, rx, q⟩ := hh
  obtain ⟨a, C, dx, fs, ex, ea, q2⟩ := zIns_of q
  obtain ⟨c, n, v, l, q3⟩ := q2.out
  subst ex
  cases (show u = Value.ref a from rx)
  exact getattr_ok I1 ea c n l fun u' s2 I2 ru => ⟨v, H1, I2, ru, q3⟩
/-- a constant of the class, by an instance -/
structure ZCn (K : PySem.W.Frag) (C : Addr) (f : Str) (fs : List (Str × V)) (R : V → Prop) : Prop where
  out : Cls K C ∧ fs.lookup f = none ∧ ∃ v u, Con K C f v u ∧ R v
def zCn (K : PySem.W.Frag) (f : Str) (ta : TE) : TE := fun σ H Q => ta σ H fun x H1 => zIns x H1 fun _ C _ fs => ZCn K C f fs fun v => Q v H1
theorem z_cn {f : Str} (K : PySem.W.Frag) (hK : X.K = K) (he : PE X e ta) (hb : attributeBase e f X.env (eval e X.env) = eval e X.env := by rfl) : PE X (.Attribute e f pos) (zCn K f ta) := by
  subst hK
  constructor
  intro pins s σ H Q I h
  refine attr_of hb (thn (he.run pins s σ H _ I h) fun u s1 hh => ?_)
  obtain ⟨x, H1, I1, rx, q⟩ := hh
  obtain ⟨a, C, dx, fs, ex, ea, q2⟩ := zIns_of q
  obtain ⟨c, l, v, u0, k, q3⟩ := q2.out
  subst ex
  cases (show u = Value.ref a from rx)
  exact getcon_ok I1 ea c k l fun s2 I2 => ⟨v, H1, I2, k.rel, q3⟩
structure ZFs (K : PySem.W.Frag) (C : Addr) (f : Str) (fs : List (Str × V)) (R : Prop) : Prop where
  out : Cls K C ∧ NoAttr K C f ∧ fs.length < 1000 ∧ R
def zFset (K : PySem.W.Frag) (f : Str) (ta tv : TE) : TS := fun D σ H => tv σ H fun y H1 => ta σ H1 fun x H2 => zIns x H2 fun a C dx fs => ZFs K C f fs (ZSet H2 a (.ins C dx (putF f y fs)) fun H3 => D.nx σ H3)
theorem z_fset {f : Str} {pos' : Pos} {value : Expr} {tv : TE} (K : PySem.W.Frag) (hK : X.K = K) (ha : PE X o ta) (hv : PE X value tv) (hs : swapsWith value (some (.Attribute o f pos')) pos.line X.env = pure false := by rfl) : PS X (.Assign [.Attribute o f pos'] value pos) (zFset K f ta tv) := by
  subst hK
  constructor
  intro pins s σ H D I h
  refine plainObj_wpAny_Assign_Attribute (thn (hv.run pins s σ H _ I h) fun u s1 hh => ?_) hs
  obtain ⟨y, H1, I1, ry, q⟩ := hh
  refine thn (ha.run pins s1 σ H1 _ I1 q) fun ov s2 hh => ?_
  obtain ⟨x, H2, I2, rx, q⟩ := hh
  obtain ⟨a, C, dx, fs, ex, ea, q2⟩ := zIns_of q
  obtain ⟨c, n, l, q3⟩ := q2.out
  subst ex
  cases (show ov = Value.ref a from rx)
  exact setattr_ok I2 ea c n l ry fun s3 I3 => ⟨σ, _, I3, q3.out⟩
/-! ### methods -/
structure ZMt (C C' : Addr) (m : Str) (fs : List (Str × V)) (R : Prop) : Prop where
  out : C' = C ∧ fs.lookup m = none ∧ R
def zMth (C : Addr) (n : Str) (sp : Sp) (W : WX) (ta : TE) (t : TA) : TE := fun σ H Q => ta σ H fun x H1 => zIns x H1 fun a C' _ fs => ZMt C C' n fs (t σ H1 fun vs H2 => ZCall sp (.ref a :: vs) H2 Q fun cls d H' => W cls d σ H')
theorem z_mth {n : Str} {pl : Sem Bool} (cz : Ce true X W k) (c : Cls X.K C) (hm : Meth X.K C n g) (F : MFn X.prog X.w X.K X.mg X.base j g ps sp) (hj : j ≤ k) (he : PE X o ta) (ha : PA X (e :: es) t)
    (hst : starEach (e :: es) X.env = (false, eval e X.env) :: starEach es X.env := by rfl) (hpl : (backTo pos (starEach es X.env)).any (·.1) = false := by rfl)
    (ht : eval (.Call (.Attribute o n apos) (e :: es) [] pos) X.env = (do
      let ov ← eval o X.env
      standAt apos.atName
      let (f, first) ← holding [ov] (getMethod ov n pl)
      callWith pos f first (backTo pos (starEach (e :: es) X.env)) (backToKw pos (keywordEach [] X.env))) := by rfl) : PE X (.Call (.Attribute o n apos) (e :: es) [] pos) (zMth C n sp W ta t) := by
  constructor
  intro pins s σ H Q I h
  refine PySem.W.methodCall_KW (pl := pl) (thn (he.run pins s σ H _ I h) fun u s1 hh => ?_) ht
  obtain ⟨x, H1, I1, rx, q⟩ := hh
  obtain ⟨a, C', dx, fs, ex, ea, q3⟩ := zIns_of q
  obtain ⟨eC, l, q4⟩ := q3.out
  subst ex eC
  cases (show u = Value.ref a from rx)
  refine getmeth_ok I1 ea c hm l ?_
  refine PySem.W.callWith_K (first := [.ref a]) (h₀ := X.base) I.ok.mod.kin hm.kp (thn (ha.run pos pins s1 σ H1 _ I1 q4) fun us s2 hh => ?_) hst hpl
  obtain ⟨vs, H2, I2, r, q2⟩ := hh
  exact ⟨I2.kIn, mcall F (cz.room.mono hj) cz.tk I2 (.cons (show L2.RelV (.ref a) (.ref a) from rfl) r) q2.out⟩
theorem z_mth0 {n : Str} {pl : Sem Bool} (cz : Ce true X W k) (c : Cls X.K C) (hm : Meth X.K C n g) (F : MFn X.prog X.w X.K X.mg X.base j g ps sp) (hj : j ≤ k) (he : PE X o ta)
    (ht : eval (.Call (.Attribute o n apos) [] [] pos) X.env = (do
      let ov ← eval o X.env
      standAt apos.atName
      let (f, first) ← holding [ov] (getMethod ov n pl)
      callWith pos f first (backTo pos (starEach [] X.env)) (backToKw pos (keywordEach [] X.env))) := by rfl) : PE X (.Call (.Attribute o n apos) [] [] pos) (zMth C n sp W ta tNil) := by
  constructor
  intro pins s σ H Q I h
  refine PySem.W.methodCall_KW (pl := pl) (thn (he.run pins s σ H _ I h) fun u s1 hh => ?_) ht
  obtain ⟨x, H1, I1, rx, q⟩ := hh
  obtain ⟨a, C', dx, fs, ex, ea, q3⟩ := zIns_of q
  obtain ⟨eC, l, q4⟩ := q3.out
  subst ex eC
  cases (show u = Value.ref a from rx)
  refine getmeth_ok I1 ea c hm l ?_
  have q2 : ZCall sp [V.ref a] H1 Q fun cls d H' => W cls d σ H' := q4
  exact PySem.W.callWith_K0 (first := [.ref a]) I1.kIn hm.kp (mcall (us := [.ref a]) F (cz.room.mono hj) cz.tk I1 (.cons (show L2.RelV (.ref a) (.ref a) from rfl) .nil) q2.out)
/-- a property -/
def zPrp (C : Addr) (sp : Sp) (ta : TE) : TE := fun σ H Q => ta σ H fun x H1 => zIns x H1 fun a C' _ _ => ZSide (C' = C) (ZCall sp [.ref a] H1 Q fun _ _ _ => False)
theorem z_prp {f : Str} {pr : Addr} (cz : Ce true X W k) (c : Cls X.K C) (hp : PropOf X.K C f pr g) (F : MFn X.prog X.w X.K X.mg X.base j g ps sp) (hj : j + 1 ≤ k) (he : PE X e ta) (hb : attributeBase e f X.env (eval e X.env) = eval e X.env := by rfl) : PE X (.Attribute e f pos) (zPrp C sp ta) := by
  obtain ⟨fd, F, hbi⟩ := F.ex
  constructor
  intro pins s σ H Q I h
  refine attr_of hb (thn (he.run pins s σ H _ I h) fun u s1 hh => ?_)
  obtain ⟨x, H1, I1, rx, q⟩ := hh
  obtain ⟨a, C', dx, fs, ex, ea, q3⟩ := zIns_of q
  obtain ⟨eC, q4⟩ := q3
  subst ex eC
  cases (show u = Value.ref a from rx)
  refine getprop_ok (dvs := []) (E := fun _ _ _ => False) I1 ea c hp F (cz.room.mono hj) hbi .nil (fun pins σ H s er s' I z => ?_) q4.out
  obtain ⟨_, _, _, _, _, _, _, _, _, _, _, _, z⟩ := z
  exact z.elim
end
/-! ### a method by its datum -/
theorem mfn_mk {P : Program} {w : World} {K : PySem.W.Frag} {mg : Str → Option Value} {base : Heap} {x qual : Str} {params : Arguments} {body : List Stmt} {scope : Scope} {f : Addr} {N ps : List Str} {k : Nat} {sp : Sp} (hF : ∃ fd, FunD K x qual params body scope [] [] f fd) (S : FnScope N ps scope)
    (hb : ∀ (kV doc pm : Value) (an : Option Addr) (cdv ct : Value) (us : List Value), us.length = ps.length → bindArgs (PySem.W.fnOf x qual params body scope .none kV doc pm an cdv ct) ⟨us, []⟩ = pure (ps.zip us))
    (len : ∀ vs H Q E, sp vs H Q E → vs.length = ps.length)
    (hbody : ∀ (cdv : Value) (A : Around) (outer : List Env) (s : Shared) (H : Hp) (vs : List V) (Q : VK) (E : XK) (pn : List (Addr × Obj)), Cz true (bodyCx true P w K mg base N qual scope f cdv A outer s H E pn) (fun cls d _ H => E cls d H) k → sp vs H Q E →
      ∃ t, PSs (bodyCx true P w K mg base N qual scope f cdv A outer s H E pn) body t ∧ t { nx := fun _ H' => Q .non H', rt := Q } (start N vs) H) : MFn P w K mg base (k + 1) f ps sp := by
  obtain ⟨fd, F⟩ := hF
  exact ⟨fd, fn_mk F S len hbody, F.bindsN hb⟩
theorem k_isi (K : PySem.W.Frag) {X : Cx} (hK : X.K = K) : CallR X (.builtin "isinstance") (zIsi K) := by
  subst hK
  exact zIsi_ok
theorem zisi_own {K : PySem.W.Frag} {H : Hp} {cs : List Chunk} {a C dx : Addr} {fs : List (Str × V)} {R : Bool → Prop} (h : Own cs H) (m : pt a (.ins C dx fs) ∈ cs) (c : Cls K C) (i : OwnI K C) (r : R true) : ZIsi K (.ref a) H (.ref C) R :=
  ⟨.ref C, .ref C, true, .own C, .base (.ins (h.get m) c i.ca i.cn i.ct i.cm), i.ki, r⟩
/-! ### own operators -/
section
variable {X : Cx} {W : WX} {k j : Nat} {a b : Expr} {ta tb : TE} {pos : Pos} {g C : Addr} {ps : List Str} {sp : Sp}
theorem inst_of {pins : List (Addr × Obj)} {σ : L2.St} {H : Hp} {s : Shared} {x C dx : Addr} {fs : List (Str × V)} (I : Inv X pins σ H s) (e : H x = some (.ins C dx fs)) : ∃ ox od, PySem.W.InstAt s.heap x ox C (some od) := by
  obtain ⟨mA, O, _⟩ := ins_get I.hok e
  obtain ⟨od, J, _⟩ := O.look
  exact ⟨_, od, J⟩
def zUnO (C : Addr) (sp : Sp) (W : WX) (ta : TE) : TE := fun σ H Q => ta σ H fun x H1 => zIns x H1 fun p C' _ _ => ZSide (C' = C) (ZCall sp [.ref p] H1 Q fun cls d H' => W cls d σ H')
theorem z_neg (cz : Ce true X W k) (hm : Meth X.K C "__neg__" g) (F : MFn X.prog X.w X.K X.mg X.base j g ps sp) (hj : j ≤ k) (ha : PE X a ta) : PE X (.UnaryOp .USub a pos) (zUnO C sp W ta) := by
  constructor
  intro pins s σ H Q I h
  refine UnaryOp_ (thn (ha.run pins s σ H _ I h) fun v s1 hh => ?_)
  obtain ⟨x, H1, I1, rx, q⟩ := hh
  obtain ⟨p, C', dx, fs, ex, ea, q2⟩ := zIns_of q
  obtain ⟨eC, q3⟩ := q2
  subst ex eC
  cases (show v = Value.ref p from rx)
  obtain ⟨ox, od, J⟩ := inst_of I1 ea
  obtain ⟨m, hF⟩ := I1.fr
  exact PySem.W.ksp_neg hF I1.ok.mod.kin J hm.at_ hm.fn (mcall (us := [.ref p]) F (cz.room.mono hj) cz.tk I1 (.cons (show L2.RelV (.ref p) (.ref p) from rfl) .nil) q3.out)
theorem z_inv (cz : Ce true X W k) (hm : Meth X.K C "__invert__" g) (F : MFn X.prog X.w X.K X.mg X.base j g ps sp) (hj : j ≤ k) (ha : PE X a ta) : PE X (.UnaryOp .Invert a pos) (zUnO C sp W ta) := by
  constructor
  intro pins s σ H Q I h
  refine UnaryOp_ (thn (ha.run pins s σ H _ I h) fun v s1 hh => ?_)
  obtain ⟨x, H1, I1, rx, q⟩ := hh
  obtain ⟨p, C', dx, fs, ex, ea, q2⟩ := zIns_of q
  obtain ⟨eC, q3⟩ := q2
  subst ex eC
  cases (show v = Value.ref p from rx)
  obtain ⟨ox, od, J⟩ := inst_of I1 ea
  obtain ⟨m, hF⟩ := I1.fr
  exact PySem.W.ksp_inv hF I1.ok.mod.kin J hm.at_ hm.fn (mcall (us := [.ref p]) F (cz.room.mono hj) cz.tk I1 (.cons (show L2.RelV (.ref p) (.ref p) from rfl) .nil) q3.out)
/-- an operator with a value of a built-in type on the right -/
structure OpT (K : PySem.W.Frag) (C : Addr) (op : Operator) (T : String) (g : Addr) : Prop where
  sf : PySem.W.selfFirst K C = true
  hs : PySem.W.findIn K (.ref C) (PySem.dunder op.info.2) = some (some (.ref g))
  fn : PySem.W.isFn K (.ref g) = true
  hr : ∃ rc, PySem.W.findIn K (.ref C) (dunderR op.info.2) = some rc ∧ (rc = none ∨ ∃ g : Addr, rc = some (.ref g))
  h1 : ∃ fo, PySem.W.findIn K (.type T) (PySem.dunder op.info.2) = some fo
  h2 : ∃ ro, PySem.W.findIn K (.type T) (dunderR op.info.2) = some ro
  sub : PySem.W.subIn K (.type T) (.ref C) = some false
def rcB : Option (Option Value) → Bool
  | some none => true
  | some (some (.ref _)) => true
  | _ => false
theorem rcB_ok {o : Option (Option Value)} (h : rcB o = true) : ∃ rc, o = some rc ∧ (rc = none ∨ ∃ g : Addr, rc = some (.ref g)) := by
  unfold rcB at h
  split at h
  · exact ⟨_, rfl, .inl rfl⟩
  · exact ⟨_, rfl, .inr ⟨_, rfl⟩⟩
  · cases h
def opTB (K : PySem.W.Frag) (C : Addr) (op : Operator) (T : String) (g : Addr) : Bool :=
  PySem.W.selfFirst K C && (eqV (PySem.W.findIn K (.ref C) (PySem.dunder op.info.2)) (some (some (.ref g))) && (PySem.W.isFn K (.ref g) && (rcB (PySem.W.findIn K (.ref C) (dunderR op.info.2)) && ((PySem.W.findIn K (.type T) (PySem.dunder op.info.2)).isSome && ((PySem.W.findIn K (.type T) (dunderR op.info.2)).isSome
    && decide (PySem.W.subIn K (.type T) (.ref C) = some false))))))
theorem opTB_ok {K : PySem.W.Frag} {C g : Addr} {op : Operator} {T : String} (h : opTB K C op T g = true) : OpT K C op T g := by
  obtain ⟨h1, h⟩ := He.ba h
  obtain ⟨h2, h⟩ := He.ba h
  obtain ⟨h3, h⟩ := He.ba h
  obtain ⟨h4, h⟩ := He.ba h
  obtain ⟨h5, h⟩ := He.ba h
  obtain ⟨h6, h7⟩ := He.ba h
  exact ⟨h1, of_decide_eq_true h2, h3, rcB_ok h4, Option.isSome_iff_exists.mp h5, Option.isSome_iff_exists.mp h6, of_decide_eq_true h7⟩
def zBinI (C : Addr) (sp : Sp) (W : WX) (ta tb : TE) : TE := fun σ H Q => ta σ H fun x H1 => tb σ H1 fun y H2 => match y with
  | .int _ => zIns x H2 fun p C' _ _ => ZSide (C' = C) (ZCall sp [.ref p, y] H2 Q fun cls d H' => W cls d σ H')
  | _ => False
theorem z_binI {op : Operator} (cz : Ce true X W k) (O : OpT X.K C op "int" g) (F : MFn X.prog X.w X.K X.mg X.base j g ps sp) (hj : j ≤ k) (ha : PE X a ta) (hb : PE X b tb) : PE X (.BinOp a op b pos) (zBinI C sp W ta tb) := by
  obtain ⟨rc, hr1, hr2⟩ := O.hr
  obtain ⟨fo, h1⟩ := O.h1
  obtain ⟨ro, h2⟩ := O.h2
  constructor
  intro pins s σ H Q I h
  refine wpAny_BinOp (binT ha hb I h fun v u s2 x y H2 I2 rx ry q => ?_)
  cases y with
  | int i =>
    obtain ⟨p, C', dx, fs, ex, ea, q2⟩ := zIns_of (show zIns x H2 _ from q)
    obtain ⟨eC, q3⟩ := q2
    subst ex eC
    cases (show v = Value.ref p from rx)
    obtain ⟨t, eu⟩ := (show ∃ t, u = Value.int i t from ry)
    subst eu
    obtain ⟨ox, od, J⟩ := inst_of I2 ea
    obtain ⟨m, hF⟩ := I2.fr
    refine PySem.W.ksp_binT (T := "int") hF I2.ok.mod.kin J rfl O.sf O.hs O.fn hr1 hr2 h1 h2 O.sub ?_
    refine thn (mcall (us := [.ref p, .int i t]) F (cz.room.mono hj) cz.tk I2 (.cons (show L2.RelV (.ref p) (.ref p) from rfl) (.cons (show L2.RelV (.int i) (.int i t) from ⟨t, rfl⟩) .nil)) q3.out) fun v3 s3 z => ?_
    obtain ⟨w3, H3, I3, r3, q3⟩ := z
    exact SlX.cmpback r3 ⟨w3, H3, I3, r3, q3⟩
  | _ => exact q.elim
end
/-! ### abs -/
theorem abs_own {prog : Program} {w : World} {A : Around} {E : Value → Shared → Prop} {s : Shared} {K : PySem.W.Frag} {x C f : Addr} {ox : Obj} {od : Option Obj} {Q : Value → Shared → Prop} (X : K.In s.heap) (I : PySem.W.InstAt s.heap x ox C od) (hs : PySem.W.findIn K (.ref C) "__abs__" = some (some (.ref f)))
    (hf : PySem.W.isFn K (.ref f) = true) (h : wpAny (model prog w) A.in1 (call (.ref f) [.ref x]) Q E s) : wpAny (model prog w) A (call (.builtin "abs") [.ref x]) Q E s := by
  refine Calls.call_function_entry PyProof.Rows.kind_abs PyProof.Rows.plain_abs PyProof.Rows.entry_abs (PyProof.Rows.args_abs _) ?_
  unfold Builtin.«abs»
  refine wpAny_bind (m := oneArg "abs" _) (wpAny_pure (wpAny_bind (m := callSpecial? (.ref x) (Str.ofString "__abs__")) (PySem.W.special_fn X I hs (beq_iff_eq.mp hf) (wpAny_mono h (fun r s' hr => ?_) fun _ _ y => y))))
  exact wpAny_pure ⟨_, rfl, hr⟩
def zAbsO (C : Addr) (sp : Sp) : List V → Hp → VK → Prop := fun xs H Q => match xs with
  | [.ref p] => zIns (.ref p) H fun p C' _ _ => ZSide (C' = C) (ZCall sp [.ref p] H Q fun _ _ _ => False)
  | _ => False
theorem zAbsO_ok {X : Cx} {W : WX} {k j : Nat} {g C : Addr} {ps : List Str} {sp : Sp} (cz : Ce true X W k) (hm : Meth X.K C "__abs__" g) (F : MFn X.prog X.w X.K X.mg X.base j g ps sp) (hj : j + 1 ≤ k) : CallR X (.builtin "abs") (zAbsO C sp) := by
  intro pins s σ H xs us Q I r q
  unfold zAbsO at q
  split at q
  · rename_i p
    obtain ⟨p', C', dx, fs, ex, ea, q2⟩ := zIns_of q
    obtain ⟨eC, q3⟩ := q2
    cases ex
    subst eC
    obtain ⟨u, rfl, ru⟩ := r.one
    cases (show u = Value.ref p from ru)
    obtain ⟨ox, od, J⟩ := inst_of I ea
    refine abs_own I.kIn J hm.at_ hm.fn (wpAny_call (codeAny_mono (mrun (W := fun _ _ _ _ => False) F (cz.room.mono hj).in1 I.env0.in1 (fun _ _ z => ?_) I (.cons (show L2.RelV (.ref p) (.ref p) from rfl) .nil) q3.out) fun r2 s2 z => z))
    obtain ⟨_, _, _, _, _, _, _, _, _, _, _, _, _, _, _, _, w⟩ := z
    exact w.elim
  · exact q.elim
/-! ### tables of the top -/
structure ZKd (K : PySem.W.Frag) (d a : Addr) (z : Str) (R : V → Prop) : Prop where
  out : a = d ∧ ∃ u0 v0, PySem.W.nsIn K d z = some (some u0) ∧ RelV v0 u0 ∧ R v0
def zKd (K : PySem.W.Frag) (d : Addr) : R2 := fun x y H Q => match x, y with
  | .ref a, .str z => ZKd K d a z fun v => Q v H
  | _, _ => False
theorem zKd_ok {X : Cx} {d : Addr} {es : Array DictEntry} {n : Nat} (D : KDict X.K X.w d es n) : IxR X (zKd X.K d) := by
  intro value slice pins s σ H x y v u Q I rx ry h hs
  cases x with
  | ref a =>
    cases y with
    | str z =>
      obtain ⟨ea, u0, v0, e, r, q⟩ := ZKd.out h
      subst ea
      have rx' := rx
      cases (show v = Value.ref a from rx)
      exact tail_any (kd_type D I) PySem.F.slot_dict_getitem.lookup (op_item_kd D pins s σ H (.ref a) (.str z) (.ref a) u Q I rx' ry ⟨z, u0, v0, rfl, rfl, e, r, q⟩) hs
    | _ => exact False.elim h
  | _ => exact False.elim h
theorem k_kd (K : PySem.W.Frag) {X : Cx} {d : Addr} {a b : Expr} {ta tb : TE} {pos : Pos} (hK : X.K = K) (D : ∃ es n, KDict K X.w d es n) (ha : PE X a ta) (hb : PE X b tb) (hs : PlainIx b := by intro _ _; rfl) : PE X (.Subscript a b pos) (tOp (zKd K d) ta tb) := by
  subst hK
  obtain ⟨es, n, D⟩ := D
  exact pe_ix (zKd_ok D) ha hb hs
/-! ### t.index(text) -/
structure ZTix (K : PySem.W.Frag) (H : Hp) (p : Addr) (z : Str) (R : Nat → Prop) : Prop where
  out : ∃ (ys : List Str) (j : Nat), SqT K H p (ys.map V.str) ∧ ys[j]? = some z ∧ (∀ m, m < j → ys[m]? ≠ some z) ∧ R j
def zTIndex (K : PySem.W.Frag) : V → List V → Hp → VK → Prop := fun x vs H Q => match x, vs with
  | .ref p, [.str z] => ZTix K H p z fun j => Q (.int (j : Nat)) H
  | _, _ => False
theorem k_tindex (K : PySem.W.Frag) {X : Cx} (hK : X.K = K) : MtR X "tuple.index" (zTIndex K) := by
  subst hK
  refine MtR.imp mt_tup_index fun x vs H Q q => ?_
  unfold zTIndex at q
  split at q
  · rename_i p z
    obtain ⟨ys, j, h1, h2, h3, h4⟩ := q.out
    exact ⟨p, ys, z, j, rfl, rfl, h1, h2, h3, h4⟩
  · exact q.elim
theorem zty_kt {K : PySem.W.Frag} {p : Addr} {vs : List V} {H : Hp} {R : Prop} (t : KTup K p vs) (r : R) : ZTy K "tuple" (.ref p) H R := ⟨t.ty H, r⟩
theorem zsq_K {K : PySem.W.Frag} {H : Hp} {p : Addr} {vs : List V} {R : Bool → List V → Prop} (t : KTup K p vs) (r : R false vs) : ZSq K H p R := ⟨false, vs, t.sq H, r⟩
section
variable {X : Cx} {a b c : Expr} {ta tb tc : TE} {pos : Pos} {op op' : CmpOp} {r r' : R2}
theorem z_chain (ho : OpR X (compareOp op) r) (ho' : OpR X (compareOp op') r') (ha : PE X a ta) (hb : PE X b tb) (hc : PE X c tc) (hm : lastMarks [op, op'] [b, c] = false := by with_unfolding_all rfl) : PE X (.Compare a [op, op'] [b, c] pos) (zChain r r' ta tb tc) := by
  rw [zChain_eq]
  exact pe_chain ho ho' ha hb hc hm
theorem zt_chain (ho : OpR X (compareOp op) r) (ho' : OpR X (compareOp op') r') (ha : PE X a ta) (hb : PE X b tb) (hc : PE X c tc) (hm : lastMarks [op, op'] [b, c] = false := by with_unfolding_all rfl) : PT X (.Compare a [op, op'] [b, c] pos) (zTest (zChain r r' ta tb tc)) := by
  rw [zTest_eq, zChain_eq]
  exact pt_chain ho ho' ha hb hc hm
end
end Z

/-! ZTry: several except clauses, each with or without a name -/
namespace Z
open PySem PySem.Spec PyProof.Rows L2
abbrev TSu := Addr → Value → Option Addr → TS
/-- the ends of a suite whose name goes -/
def endsOff (D : Ends) : Option Nat → Ends
  | none => D
  | some i => { nx := fun τ G => D.nx (τ.set i none) G, rt := D.rt, bk := fun τ G => D.bk (τ.set i none) G, ct := fun τ G => D.ct (τ.set i none) G }
def stOn (a : Addr) (τ : L2.St) : Option Nat → L2.St
  | none => τ
  | some i => τ.set i (some (.ref a))
/-- what the clauses ask of an error -/
def wG (K : PySem.W.Frag) (Wo : WX) (D : Ends) : List (Value × Option Nat × TSu) → WX
  | [] => Wo
  | (cv, oi, ts) :: r => fun cls d τ G => ∃ b, PySem.W.exmOne K cls cv = some b ∧ (b = true → ∀ a, G a = none → ts a cls d (endsOff D oi) (stOn a τ oi) G) ∧ (b = false → wG K Wo D r cls d τ G)
inductive HdG (X : Cx) : List ExceptHandler → List (Value × Option Nat × TSu) → Prop
  | nil : HdG X [] []
  | bare {x : Str} {cv : Value} {ts : TSu} {b0 : Stmt} {su : List Stmt} {np p2 : Pos} {hs : List ExceptHandler} {l : List (Value × Option Nat × TSu)} (hc : Names X x cv)
      (hsu : ∀ (a : Addr) (oe : Obj) (cls : Value) (d : Option Addr) (pn : List (Addr × Obj)), L2N.Zn cls d oe → (∃ ws, oe.data = .fields ws) → PSs (X.suite a ((a, oe) :: pn)) (b0 :: su) (ts a cls d)) (r : HdG X hs l) : HdG X (.ExceptHandler (some (.Name x np)) none (b0 :: su) p2 :: hs) ((cv, none, ts) :: l)
  | named {x n : Str} {i : Nat} {cv : Value} {ts : TSu} {b0 : Stmt} {su : List Stmt} {np p2 : Pos} {hs : List ExceptHandler} {l : List (Value × Option Nat × TSu)} (hc : Names X x cv) (hi : X.N[i]? = some n) (hl : X.env.kindOf n = some .local)
      (hsu : ∀ (a : Addr) (oe : Obj) (cls : Value) (d : Option Addr) (pn : List (Addr × Obj)), L2N.Zn cls d oe → (∃ ws, oe.data = .fields ws) → PSs (X.suite a ((a, oe) :: pn)) (b0 :: su) (ts a cls d)) (r : HdG X hs l) : HdG X (.ExceptHandler (some (.Name x np)) (some n) (b0 :: su) p2 :: hs) ((cv, some i, ts) :: l)
section
variable {X : Cx} {body : List Stmt} {h0 : ExceptHandler} {hs : List ExceptHandler} {l : List (Value × Option Nat × TSu)} {pos : Pos} {tb : WX → TS} {Wo : WX}
theorem ps_try_g (st : X.stack = X.env :: X.outer) (fr : X.env.frame = some X.env.locals) (nd : X.N.Nodup) (tk : L2N.Takes X Wo)
    (hb : ∀ (W : WX) (pn : List (Addr × Obj)) (xe : Value → Shared → Prop), L2N.Takes (X.tr pn xe) W → PassesOwn (model X.prog X.w) X.A X.env xe → PSs (X.tr pn xe) body (tb W)) (hh : HdG X (h0 :: hs) l) :
    PS X (.Try body (h0 :: hs) [] [] pos) (fun D τ G => tb (wG X.K Wo D l) D τ G) := by
  constructor
  intro pins s τ G D I hT
  have okx := I.ok
  have frm : X.A.frames = some (X.env :: X.outer) := okx.frames.trans (by rw [st])
  let flies : Value → Shared → Prop := fun e s1 => wpAny (model X.prog X.w) X.A (noteFrame e X.env) (fun _ s2 => wpAny (model X.prog X.w) X.A (setFlight e none) (fun _ s3 => wpAny (model X.prog X.w) X.A (handleBy e X.env (h0 :: hs)) (SP X pins D) X.xe s3) X.xe s2) X.xe s1
  refine wpAny_Try_except (wpAny_mono ((hb (wG X.K Wo D l) (X.pn ++ pins) flies (fun u s2 q => ?_) PassesOwn.looking).run [] s τ G D (I.toTry _) hT) (fun f s1 q => ?_) fun _ _ q => q)
  · obtain ⟨a, B, sI, _, τ1, G1, cls, d, rfl, Jt, nb, up, sky, na, eos, bare, wq⟩ := q
    have J : Inv X pins τ1 G1 sI := Jt.ofTry okx
    have sky1 : L2.Sky B (X.env :: X.outer) a (L2N.Zn cls d) X.env.locals s2.heap := by
      rw [← st]
      exact sky
    show wpAny _ _ (noteFrame (.ref a) X.env) _ _ _
    refine L2N.Sky.land L2N.Zn.steady frm fr sky1 fun g3 f3 u3 => ?_
    have up3 := up.trans u3
    have J3 : Inv X pins τ1 G1 { s2 with heap := g3 } := J.landed nb f3.1 up3 eos bare
    obtain ⟨o3, w3, l3, z3, d3⟩ := f3.there
    have off : a ∉ frs (X.env :: X.outer) := fun hm => by
      obtain ⟨_, o4, e4, nf⟩ := f3.2.2.1.mem hm
      rw [l3] at e4
      cases e4
      exact nf _ d3
    have aL : a ≠ X.env.locals := fun e => off (List.mem_filterMap.mpr ⟨X.env, List.mem_cons_self, fr.trans (congrArg some e.symm)⟩)
    have aF : a ∉ X.fs := fun hm => by
      obtain ⟨ev, he, e4⟩ := List.mem_filterMap.mp hm
      exact off (List.mem_filterMap.mpr ⟨ev, List.mem_cons_of_mem _ he, e4⟩)
    have S3 := J3.suite l3 d3 na aL aF
    have look : PySem.W.Looks (model X.prog X.w) g3 (typeOf (.ref a)) cls := fun _ _ _ _ k q => wpAny_typeOf_ref (k _ _ l3) (by rw [z3.1]; exact q)
    have named : ∀ {x : Str} {cv : Value} {np : Pos}, Names X x cv → ∀ {Q : Value → Shared → Prop} {E : Value → Shared → Prop}, Q cv { s2 with heap := g3 } → wpAny (model X.prog X.w) (X.A.mark (some (.ref a))) (eval (.Name x np) X.env) Q E { s2 with heap := g3 } := by
      rintro x cv np ⟨hg, hdb, hm | ⟨hm, hv, hnn⟩⟩ Q E q
      · exact ld_glob (X := X.suite a ((a, o3) :: (X.pn ++ pins))) S3 hg hm q hdb
      · exact ld_blt (X := X.suite a ((a, o3) :: (X.pn ++ pins))) S3 hg hm hv q hnn hdb
    have each : ∀ {ks : List ExceptHandler} {m : List (Value × Option Nat × TSu)}, HdG X ks m → wG X.K Wo D m cls d τ1 G1 → wpAny (model X.prog X.w) X.A (handleBy (.ref a) X.env ks) (SP X pins D) X.xe { s2 with heap := g3 } := by
      intro ks m hk
      induction hk with
      | nil =>
        intro q
        obtain ⟨_, _, _, oe, ws, T, _, _, he, _, hd, h1, _⟩ := id f3
        have gone : wpAny (model X.prog X.w) X.A (setFlight (.ref a) X.env.frame) (fun _ s4 => wpAny (model X.prog X.w) X.A (throw (.ref a) : Sem Flow) (SP X pins D) X.xe s4) X.xe { s2 with heap := g3 } := by
          rw [fr]
          refine HandSPX.setFlight_upZ f3 fun g4 h4 u4 => wpAny_throw (tk _ _ ⟨a, B, sI, pins, τ1, G1, cls, d, rfl, J, nb, up3.trans u4, .inr (.inr (by rw [st]; exact h4)), na, eos, bare, q⟩)
        refine wpAny_handleBy_nil ?_
        unfold PySem.passOn
        refine wpAny_bind (wpAny_field he hd h1 ?_)
        rw [if_neg (by simp : ¬ ((Value.ref T == Value.none) = true))]
        first
          | exact wpAny_bind (wpAny_pure (wpAny_bind gone))
          | exact wpAny_bind gone
      | @bare x cv ts b0 su np p2 ks2 m2 hc hsu r ih =>
        rintro ⟨b, hb1, yes, no⟩
        refine wpAny_handleBy_cons (codeAny_handlers_test ?_) (by intro q; cases q)
        refine named hc ((PySem.W.exm_one (M := model X.prog X.w) J3.kIn look hb1).here ?_)
        cases b with
        | false => exact ih (no rfl)
        | true =>
          refine codeAny_handlers_suite (HandSPX.lands_againZ f3 fun g4 f4 u4 => ?_)
          have J4 : Inv X pins τ1 G1 { s2 with heap := g4 } := J.landed nb f4.1 (up3.trans u4) eos bare
          obtain ⟨o4, w4, l4, z4, d4⟩ := f4.there
          refine wpAny_mono ((hsu a o4 cls d (X.pn ++ pins) z4 ⟨_, d4⟩).run [] _ τ1 G1 D (J4.suite l4 d4 na aL aF) (yes rfl a na)) (fun f s6 q6 => ?_) fun _ _ z => z.elim
          cases f with
          | ret u =>
            obtain ⟨v6, τ6, G6, S6, r6, q6⟩ := q6
            exact ⟨v6, τ6, G6, S6.unsuite okx, r6, q6⟩
          | next => exact q6.elim fun τ6 q6 => q6.elim fun G6 q6 => ⟨τ6, G6, q6.1.unsuite okx, q6.2⟩
          | brk => exact q6.elim fun τ6 q6 => q6.elim fun G6 q6 => ⟨τ6, G6, q6.1.unsuite okx, q6.2⟩
          | cont => exact q6.elim fun τ6 q6 => q6.elim fun G6 q6 => ⟨τ6, G6, q6.1.unsuite okx, q6.2⟩
      | @named x n i cv ts b0 su np p2 ks2 m2 hc hi hl hsu r ih =>
        rintro ⟨b, hb1, yes, no⟩
        refine wpAny_handleBy_cons (codeAny_handlers_test ?_) (by intro q; cases q)
        refine named hc ((PySem.W.exm_one (M := model X.prog X.w) J3.kIn look hb1).here ?_)
        cases b with
        | false => exact ih (no rfl)
        | true =>
          refine codeAny_handlers_suite_as (HandSPX.lands_againZ f3 fun g4 f4 u4 => ?_)
          have J4 : Inv X pins τ1 G1 { s2 with heap := g4 } := J.landed nb f4.1 (up3.trans u4) eos bare
          obtain ⟨o4, w4, l4, z4, d4⟩ := f4.there
          refine store_ok (X := X.suite a ((a, o4) :: (X.pn ++ pins))) (v := .ref a) (J4.suite l4 d4 na aL aF) nd hi (.inl hl) rfl (fun s5 S5 => ?_) (.inr hl)
          refine wpAny_mono ((hsu a o4 cls d (X.pn ++ pins) z4 ⟨_, d4⟩).run [] s5 _ G1 _ S5 (yes rfl a na)) (fun f s6 q6 => ?_) fun _ _ z => z.elim
          have clear : ∀ {τ6 : L2.St} {G6 : Hp} {R : Shared → Prop}, Inv (X.suite a ((a, o4) :: (X.pn ++ pins))) [] τ6 G6 s6 → (∀ s7, Inv X pins (τ6.set i none) G6 s7 → R s7) → wpAny (model X.prog X.w) X.A (do bindName X.env n .none; unbindBehindTheSuite X.env n p2) (fun _ s7 => R s7) X.xe s6 :=
            fun S6 hq => gone_ok (S6.unsuite okx) nd hi hl hq
          cases f with
          | ret u =>
            obtain ⟨v6, τ6, G6, S6, r6, q6⟩ := q6
            exact clear S6 fun s7 J7 => ⟨v6, _, G6, J7, r6, q6⟩
          | next => exact q6.elim fun τ6 q6 => q6.elim fun G6 q6 => clear q6.1 fun s7 J7 => ⟨_, G6, J7, q6.2⟩
          | brk => exact q6.elim fun τ6 q6 => q6.elim fun G6 q6 => clear q6.1 fun s7 J7 => ⟨_, G6, J7, q6.2⟩
          | cont => exact q6.elim fun τ6 q6 => q6.elim fun G6 q6 => clear q6.1 fun s7 J7 => ⟨_, G6, J7, q6.2⟩
    exact each hh wq
  · cases f with
    | ret u =>
      obtain ⟨v, τ1, G1, Jt, r, q⟩ := q
      exact ⟨v, τ1, G1, Jt.ofTry okx, r, q⟩
    | next => exact q.elim fun τ1 q => q.elim fun G1 q => wpAny_execs_nil ⟨τ1, G1, q.1.ofTry okx, q.2⟩
    | brk => exact q.elim fun τ1 q => q.elim fun G1 q => ⟨τ1, G1, q.1.ofTry okx, q.2⟩
    | cont => exact q.elim fun τ1 q => q.elim fun G1 q => ⟨τ1, G1, q.1.ofTry okx, q.2⟩
end
/-- try, in a calm context -/
theorem z_tryG {X : Cx} {W : WX} {k : Nat} {body : List Stmt} {h0 : ExceptHandler} {hs : List ExceptHandler} {l : List (Value × Option Nat × TSu)} {pos : Pos} {tb : WX → TS} (cz : Cz true X W k) (nd : X.N.Nodup)
    (hb : ∀ (W' : WX) (pn : List (Addr × Obj)) (xe : Value → Shared → Prop), Cz true (X.tr pn xe) W' k → PSs (X.tr pn xe) body (tb W')) (hh : HdG X (h0 :: hs) l) : PS X (.Try body (h0 :: hs) [] [] pos) (fun D τ G => tb (wG X.K W D l) D τ G) :=
  ps_try_g cz.stk cz.frm nd cz.tk (fun W' pn xe tk ow => hb W' pn xe (cz_body cz tk ow)) hh
theorem hg_bare {X : Cx} {W : WX} {k : Nat} {x : Str} {cv : Value} {ts : TSu} {b0 : Stmt} {su : List Stmt} {np p2 : Pos} {hs : List ExceptHandler} {l : List (Value × Option Nat × TSu)} (cz : Cz true X W k) (hc : Names X x cv)
    (hsu : ∀ (a : Addr) (oe : Obj) (cls : Value) (d : Option Addr) (pn : List (Addr × Obj)), L2N.Zn cls d oe → (∃ ws, oe.data = .fields ws) → Cz false (X.suite a ((a, oe) :: pn)) (fun _ _ _ _ => False) k → PSs (X.suite a ((a, oe) :: pn)) (b0 :: su) (ts a cls d)) (r : HdG X hs l) : HdG X (.ExceptHandler (some (.Name x np)) none (b0 :: su) p2 :: hs) ((cv, none, ts) :: l) :=
  .bare hc (fun a oe cls d pn hz hf => hsu a oe cls d pn hz hf (cz_suite cz hz hf)) r
theorem hg_as {X : Cx} {W : WX} {k i : Nat} {x n : Str} {cv : Value} {ts : TSu} {b0 : Stmt} {su : List Stmt} {np p2 : Pos} {hs : List ExceptHandler} {l : List (Value × Option Nat × TSu)} (cz : Cz true X W k) (hc : Names X x cv)
    (hsu : ∀ (a : Addr) (oe : Obj) (cls : Value) (d : Option Addr) (pn : List (Addr × Obj)), L2N.Zn cls d oe → (∃ ws, oe.data = .fields ws) → Cz false (X.suite a ((a, oe) :: pn)) (fun _ _ _ _ => False) k → PSs (X.suite a ((a, oe) :: pn)) (b0 :: su) (ts a cls d)) (r : HdG X hs l)
    (hi : X.N[i]? = some n := by rfl) (hl : X.env.kindOf n = some .local := by rfl) : HdG X (.ExceptHandler (some (.Name x np)) (some n) (b0 :: su) p2 :: hs) ((cv, some i, ts) :: l) :=
  .named hc hi hl (fun a oe cls d pn hz hf => hsu a oe cls d pn hz hf (cz_suite cz hz hf)) r
end Z

/-! M0: values as data, a heap as a list, and what ties them to the model -/
namespace M
open PySem PySem.Spec PyProof.Rows L2 Z
inductive D where
  | non | bl (b : Bool) | int (i : Int) | str (x : Str) | ref (a : Nat) | tup (ds : List D) | scr (ds : List D) | kin (u d : Int) (s : Str)
inductive MO where
  | lst (ds : List D)
  | ins (C : String) (fs : List (String × D))
  | dK (kvs : List (Key × D))
  | dT (kvs : List (List Key × D))
abbrev Mh := List MO
abbrev Mv := List (Option D)
structure Er where
  c : String
  fs : List (String × D)
inductive Rs (α : Type) where
  | ok (a : α) (h : Mh)
  | er (x : Er) (e : Mv) (h : Mh)
  | no
def Rs.bind {α β : Type} (r : Rs α) (k : α → Mh → Rs β) : Rs β := match r with
  | .ok a h => k a h
  | .er x e h => .er x e h
  | .no => .no
def Rs.sat {α : Type} (r : Rs α) (P : α → Mh → Prop) (E : Er → Mv → Mh → Prop) : Prop := match r with
  | .ok a h => P a h
  | .er x e h => E x e h
  | .no => False
theorem Rs.sat_bind {α β : Type} {r : Rs α} {k : α → Mh → Rs β} {P : β → Mh → Prop} {E : Er → Mv → Mh → Prop} : (r.bind k).sat P E ↔ r.sat (fun a h => (k a h).sat P E) E := by
  cases r <;> exact Iff.rfl
theorem Rs.sat.mono {α : Type} {r : Rs α} {P P' : α → Mh → Prop} {E E' : Er → Mv → Mh → Prop} (h : r.sat P E) (p : ∀ a h, P a h → P' a h) (e : ∀ x v h, E x v h → E' x v h) : r.sat P' E' := by
  cases r with
  | ok a h' => exact p _ _ h
  | er x v h' => exact e _ _ _ h
  | no => exact h
/-! ### worlds -/
structure Wd where
  ρ : Nat → Addr
  h : Mh
  H : Hp
abbrev nm (s : String) : Str := Str.ofString s
theorem nm_inj {a b : String} : nm a = nm b ↔ a = b := by
  constructor
  · intro h
    rw [nm, nm, Str.ofString_eq_toList, Str.ofString_eq_toList] at h
    have h2 : a.toList.map Char.toNat = b.toList.map Char.toNat := by
      injection h with h
      simpa using congrArg Array.toList h
    have h3 : a.toList = b.toList := by
      have inj : ∀ x y : Char, x.toNat = y.toNat → x = y := fun x y e => Char.ext (UInt32.toNat_inj.mp e)
      generalize a.toList = la at h2
      generalize b.toList = lb at h2
      induction la generalizing lb with
      | nil => cases lb with
        | nil => rfl
        | cons c l => cases h2
      | cons c l ih => cases lb with
        | nil => cases h2
        | cons c' l' =>
          simp only [List.map_cons, List.cons.injEq] at h2
          rw [inj _ _ h2.1, ih _ h2.2]
    exact String.toList_inj.mp h3
  · rintro rfl
    rfl
section
variable (K : PySem.W.Frag)
abbrev kinC : Addr := He.ga K "Kin"
def kinF (u d : Int) (s : Str) : List (Str × V) := [("up", .int u), ("down", .int d), ("side", .str s), ("far", .int (u + d)), ("rank", .int ((if s = "line" then 0 else if s = "elder" then 1 else 2 : Nat) : Int))]
/-- a list that nobody writes -/
def FzL (H : Hp) (p : Addr) (vs : List V) : Prop := (∃ o, H p = some (.frz o (.lst vs))) ∨
  ∃ (o : Obj) (its : Array Value) (n : Nat), K.lookup p = some o ∧ o.cls = .type "list" ∧ o.dict = none ∧ o.data = .seq its n ∧ its.size ≤ sizeLine ∧ Vals vs its.toList
theorem FzL.sq {K : PySem.W.Frag} {H : Hp} {p : Addr} {vs : List V} (h : FzL K H p vs) : SqL K H p vs := h.elim (fun h => .inl (.inr h)) .inr
mutual
def RepV (w : Wd) : D → V → Prop
  | .non, v => v = .non
  | .bl b, v => v = .bl b
  | .int i, v => v = .int i
  | .str x, v => v = .str x
  | .ref a, v => a < w.h.length ∧ v = .ref (w.ρ a)
  | .tup ds, v => ∃ p vs, v = .ref p ∧ SqT K w.H p vs ∧ RepL w ds vs
  | .scr ds, v => ∃ p vs, v = .ref p ∧ FzL K w.H p vs ∧ RepL w ds vs
  | .kin u d s, v => ∃ p dx, v = .ref p ∧ w.H p = some (.ins (kinC K) dx (kinF u d s))
def RepL (w : Wd) : List D → List V → Prop
  | [], vs => vs = []
  | d :: ds, vs => ∃ v ws, vs = v :: ws ∧ RepV w d v ∧ RepL w ds ws
end
def RepF (w : Wd) : List (String × D) → List (Str × V) → Prop
  | [], fs => fs = []
  | (f, d) :: r, fs => ∃ v rs, fs = (nm f, v) :: rs ∧ RepV K w d v ∧ RepF w r rs
def RepK {κ : Type} (w : Wd) : List (κ × D) → List (κ × V) → Prop
  | [], fs => fs = []
  | (f, d) :: r, fs => ∃ v rs, fs = (f, v) :: rs ∧ RepV K w d v ∧ RepK w r rs
def RepO (w : Wd) (p : Addr) : MO → Prop
  | .lst ds => ∃ vs, w.H p = some (.lst vs) ∧ RepL K w ds vs
  | .ins C fs => He.ga K (nm C) ≠ kinC K ∧ ∃ dx vs, w.H p = some (.ins (He.ga K (nm C)) dx vs) ∧ RepF K w fs vs
  | .dK kvs => ∃ vs, w.H p = some (.dK vs) ∧ RepK K w kvs vs
  | .dT kvs => ∃ vs, w.H p = some (.dT vs) ∧ RepK K w kvs vs
structure Wd.Ok (w : Wd) : Prop where
  inj : ∀ a b, a < w.h.length → b < w.h.length → w.ρ a = w.ρ b → a = b
  obj : ∀ a o, w.h[a]? = some o → RepO K w (w.ρ a) o
structure Nx (w w' : Wd) : Prop where
  ok : w'.Ok K
  le : w.h.length ≤ w'.h.length
  ag : ∀ a, a < w.h.length → w'.ρ a = w.ρ a
  kp : ∀ p o, w.H p = some o → (∀ a, a < w.h.length → w.ρ a ≠ p) → w'.H p = some o
  fr : ∀ a, w.h.length ≤ a → a < w'.h.length → w.H (w'.ρ a) = none
end
section
variable {K : PySem.W.Frag} {w w' w'' : Wd}
/-- objects that never change -/
def Fz (K : PySem.W.Frag) : HO → Prop
  | .tup _ => True
  | .xd _ => True
  | .frz _ _ => True
  | .ins C _ _ => C = kinC K
  | _ => False
theorem RepO.there {p : Addr} {mo : MO} (h : RepO K w p mo) : ∃ o, w.H p = some o ∧ ¬ Fz K o := by
  cases mo with
  | lst ds => obtain ⟨vs, e, _⟩ := h; exact ⟨_, e, id⟩
  | ins C fs => obtain ⟨n, dx, vs, e, _⟩ := h; exact ⟨_, e, n⟩
  | dK ds => obtain ⟨vs, e, _⟩ := h; exact ⟨_, e, id⟩
  | dT ds => obtain ⟨vs, e, _⟩ := h; exact ⟨_, e, id⟩
theorem Wd.Ok.at (ok : w.Ok K) {a : Nat} (h : a < w.h.length) : ∃ o, w.H (w.ρ a) = some o ∧ ¬ Fz K o := (ok.obj a _ (List.getElem?_eq_getElem h)).there
theorem Nx.fz (x : Nx K w w') (ok : w.Ok K) {p : Addr} {o : HO} (h : w.H p = some o) (f : Fz K o) : w'.H p = some o := x.kp p o h fun a ha e => by
  obtain ⟨o', e', nf⟩ := ok.at ha
  rw [e, h] at e'
  cases e'
  exact nf f
theorem Nx.refl (ok : w.Ok K) : Nx K w w := ⟨ok, Nat.le_refl _, fun _ _ => rfl, fun _ _ h _ => h, fun a h1 h2 => absurd h2 (Nat.not_lt.mpr h1)⟩
theorem Nx.trans (x : Nx K w w') (y : Nx K w' w'') : Nx K w w'' := by
  have kp : ∀ p o, w.H p = some o → (∀ a, a < w.h.length → w.ρ a ≠ p) → (w'.H p = some o ∧ ∀ a, a < w'.h.length → w'.ρ a ≠ p) := fun p o h n => by
    refine ⟨x.kp p o h n, fun a ha e => ?_⟩
    by_cases hl : a < w.h.length
    · exact n a hl ((x.ag a hl).symm.trans e)
    · have z := x.fr a (Nat.not_lt.mp hl) ha
      rw [e, h] at z
      cases z
  refine ⟨y.ok, Nat.le_trans x.le y.le, fun a h => (y.ag a (Nat.lt_of_lt_of_le h x.le)).trans (x.ag a h), fun p o h n => ?_, fun a h1 h2 => ?_⟩
  · obtain ⟨h1, n1⟩ := kp p o h n
    exact y.kp p o h1 n1
  · by_cases hl : a < w'.h.length
    · rw [y.ag a hl]
      exact x.fr a h1 hl
    · have z := y.fr a (Nat.not_lt.mp hl) h2
      cases q : w.H (w''.ρ a) with
      | none => rfl
      | some o =>
        by_cases im : ∃ b, b < w.h.length ∧ w.ρ b = w''.ρ a
        · obtain ⟨b, hb, e⟩ := im
          obtain ⟨o', e', _⟩ := x.ok.at (Nat.lt_of_lt_of_le hb x.le)
          rw [x.ag b hb, e, z] at e'
          cases e'
        · have e := x.kp _ o q fun b hb e => im ⟨b, hb, e⟩
          rw [z] at e
          cases e
/-! what stands stays -/
theorem sqT_fz {H H' : Hp} {p : Addr} {vs : List V} (h : SqT K H p vs) (k : ∀ p o, H p = some o → Fz K o → H' p = some o) : SqT K H' p vs := by
  rcases h with (h | ⟨o, h⟩) | h
  · exact .inl (.inl (k _ _ h trivial))
  · exact .inl (.inr ⟨o, k _ _ h trivial⟩)
  · exact .inr h
theorem fzL_fz {H H' : Hp} {p : Addr} {vs : List V} (h : FzL K H p vs) (k : ∀ p o, H p = some o → Fz K o → H' p = some o) : FzL K H' p vs := by
  rcases h with ⟨o, h⟩ | h
  · exact .inl ⟨o, k _ _ h trivial⟩
  · exact .inr h
section
variable (le : w.h.length ≤ w'.h.length) (ag : ∀ a, a < w.h.length → w'.ρ a = w.ρ a) (k : ∀ p o, w.H p = some o → Fz K o → w'.H p = some o)
include le ag k
mutual
theorem RepV.keep : ∀ (d : D) (v : V), RepV K w d v → RepV K w' d v
  | .non, v, h => by unfold RepV at h ⊢; exact h
  | .bl b, v, h => by unfold RepV at h ⊢; exact h
  | .int i, v, h => by unfold RepV at h ⊢; exact h
  | .str x, v, h => by unfold RepV at h ⊢; exact h
  | .ref a, v, h => by
    unfold RepV at h ⊢
    exact ⟨Nat.lt_of_lt_of_le h.1 le, by rw [ag a h.1]; exact h.2⟩
  | .tup ds, v, h => by
    unfold RepV at h ⊢
    obtain ⟨p, vs, e, s, r⟩ := h
    exact ⟨p, vs, e, sqT_fz s k, RepL.keep ds vs r⟩
  | .scr ds, v, h => by
    unfold RepV at h ⊢
    obtain ⟨p, vs, e, s, r⟩ := h
    exact ⟨p, vs, e, fzL_fz s k, RepL.keep ds vs r⟩
  | .kin u d s, v, h => by
    unfold RepV at h ⊢
    obtain ⟨p, dx, e, s⟩ := h
    exact ⟨p, dx, e, k _ _ s rfl⟩
theorem RepL.keep : ∀ (ds : List D) (vs : List V), RepL K w ds vs → RepL K w' ds vs
  | [], vs, h => by unfold RepL at h ⊢; exact h
  | d :: ds, vs, h => by
    unfold RepL at h ⊢
    obtain ⟨v, ws, e, r, t⟩ := h
    exact ⟨v, ws, e, RepV.keep d v r, RepL.keep ds ws t⟩
end
theorem RepF.keep : ∀ (ds : List (String × D)) (vs : List (Str × V)), RepF K w ds vs → RepF K w' ds vs
  | [], vs, h => h
  | (f, d) :: ds, vs, h => by
    obtain ⟨v, ws, e, r, t⟩ := h
    exact ⟨v, ws, e, RepV.keep le ag k d v r, RepF.keep ds ws t⟩
theorem RepK.keep {κ : Type} : ∀ (ds : List (κ × D)) (vs : List (κ × V)), RepK K w ds vs → RepK K w' ds vs
  | [], vs, h => h
  | (f, d) :: ds, vs, h => by
    obtain ⟨v, ws, e, r, t⟩ := h
    exact ⟨v, ws, e, RepV.keep le ag k d v r, RepK.keep ds ws t⟩
theorem RepO.keep {p : Addr} {mo : MO} (h : RepO K w p mo) (kp : ∀ o, w.H p = some o → w'.H p = some o) : RepO K w' p mo := by
  cases mo with
  | lst ds => obtain ⟨vs, e, r⟩ := h; exact ⟨vs, kp _ e, RepL.keep le ag k ds vs r⟩
  | ins C fs => obtain ⟨n, dx, vs, e, r⟩ := h; exact ⟨n, dx, vs, kp _ e, RepF.keep le ag k fs vs r⟩
  | dK ds => obtain ⟨vs, e, r⟩ := h; exact ⟨vs, kp _ e, RepK.keep le ag k ds vs r⟩
  | dT ds => obtain ⟨vs, e, r⟩ := h; exact ⟨vs, kp _ e, RepK.keep le ag k ds vs r⟩
end
theorem Nx.v (x : Nx K w w') (ok : w.Ok K) {d : D} {v : V} (h : RepV K w d v) : RepV K w' d v := RepV.keep x.le x.ag (fun _ _ h f => x.fz ok h f) d v h
theorem Nx.l (x : Nx K w w') (ok : w.Ok K) {d : List D} {v : List V} (h : RepL K w d v) : RepL K w' d v := RepL.keep x.le x.ag (fun _ _ h f => x.fz ok h f) d v h
theorem Nx.f (x : Nx K w w') (ok : w.Ok K) {d : List (String × D)} {v : List (Str × V)} (h : RepF K w d v) : RepF K w' d v := RepF.keep x.le x.ag (fun _ _ h f => x.fz ok h f) d v h
/-! ### a new object, a store -/
def ext1 (ρ : Nat → Addr) (n : Nat) (p : Addr) : Nat → Addr := fun a => if a = n then p else ρ a
abbrev Wd.new (w : Wd) (p : Addr) (mo : MO) (o : HO) : Wd := ⟨ext1 w.ρ w.h.length p, w.h ++ [mo], upd w.H p o⟩
theorem nx_new (ok : w.Ok K) {p : Addr} {mo : MO} {o : HO} (n : w.H p = none) (r : RepO K (w.new p mo o) p mo) : Nx K w (w.new p mo o) := by
  have le : w.h.length ≤ (w.new p mo o).h.length := by simp
  have ag : ∀ a, a < w.h.length → (w.new p mo o).ρ a = w.ρ a := fun a h => if_neg (Nat.ne_of_lt h)
  have k0 : ∀ q u, w.H q = some u → (w.new p mo o).H q = some u := fun q u h => by
    show upd w.H p o q = some u
    rw [upd_ne (fun e => by rw [e, n] at h; cases h)]
    exact h
  have ne : ∀ a, a < w.h.length → w.ρ a ≠ p := fun a h e => by
    obtain ⟨o', e', _⟩ := ok.at h
    rw [e, n] at e'
    cases e'
  refine ⟨⟨fun a b ha hb e => ?_, fun a u h => ?_⟩, le, ag, fun q u h _ => k0 q u h, fun a h1 h2 => ?_⟩
  · have ha' : a < w.h.length + 1 := by simpa using ha
    have hb' : b < w.h.length + 1 := by simpa using hb
    have e' : ext1 w.ρ w.h.length p a = ext1 w.ρ w.h.length p b := e
    unfold ext1 at e'
    by_cases h1 : a = w.h.length
    · by_cases h2 : b = w.h.length
      · rw [h1, h2]
      · rw [if_pos h1, if_neg h2] at e'
        exact (ne b (by omega) e'.symm).elim
    · by_cases h2 : b = w.h.length
      · rw [if_neg h1, if_pos h2] at e'
        exact (ne a (by omega) e').elim
      · rw [if_neg h1, if_neg h2] at e'
        exact ok.inj a b (by omega) (by omega) e'
  · have h' : (w.h ++ [mo])[a]? = some u := h
    by_cases hl : a < w.h.length
    · rw [List.getElem?_append_left hl] at h'
      have q := ok.obj a u h'
      rw [ag a hl]
      exact q.keep le ag (fun _ _ h _ => k0 _ _ h) fun _ h => k0 _ _ h
    · have hlt := (List.getElem?_eq_some_iff.mp h').1
      have e : a = w.h.length := by simp at hlt; omega
      subst e
      simp at h'
      subst h'
      show RepO K _ (ext1 w.ρ w.h.length p w.h.length) _
      unfold ext1
      rw [if_pos rfl]
      exact r
  · have e : a = w.h.length := by simp at h2; omega
    subst e
    show w.H (ext1 w.ρ w.h.length p w.h.length) = none
    unfold ext1
    rw [if_pos rfl]
    exact n
theorem new_ref {p : Addr} {mo : MO} {o : HO} : RepV K (w.new p mo o) (.ref w.h.length) (.ref p) := by
  unfold RepV
  refine ⟨by simp, ?_⟩
  show V.ref p = .ref (ext1 w.ρ w.h.length p w.h.length)
  unfold ext1
  rw [if_pos rfl]
/-- the contents of a new object are told in the old world -/
theorem new_keep (ok : w.Ok K) {p : Addr} {mo : MO} {o : HO} (n : w.H p = none) : w.h.length ≤ (w.new p mo o).h.length ∧ (∀ a, a < w.h.length → (w.new p mo o).ρ a = w.ρ a) ∧ ∀ q u, w.H q = some u → Fz K u → (w.new p mo o).H q = some u := by
  refine ⟨by simp, fun a h => if_neg (Nat.ne_of_lt h), fun q u h _ => ?_⟩
  show upd w.H p o q = some u
  rw [upd_ne (fun e => by rw [e, n] at h; cases h)]
  exact h
abbrev Wd.fz (w : Wd) (p : Addr) (o : HO) : Wd := ⟨w.ρ, w.h, upd w.H p o⟩
/-- a new object that is not told in the heap -/
theorem nx_fz (ok : w.Ok K) {p : Addr} {o : HO} (n : w.H p = none) : Nx K w (w.fz p o) := by
  have k0 : ∀ q u, w.H q = some u → (w.fz p o).H q = some u := fun q u h => by
    show upd w.H p o q = some u
    rw [upd_ne (fun e => by rw [e, n] at h; cases h)]
    exact h
  refine ⟨⟨ok.inj, fun a u h => ?_⟩, Nat.le_refl _, fun _ _ => rfl, fun q u h _ => k0 q u h, fun a h1 h2 => absurd h2 (Nat.not_lt.mpr h1)⟩
  exact RepO.keep (w := w) (w' := w.fz p o) (Nat.le_refl _) (fun _ _ => rfl) (fun _ _ h _ => k0 _ _ h) (ok.obj a u h) fun _ h => k0 _ _ h
abbrev Wd.set (w : Wd) (a : Nat) (mo : MO) (o : HO) : Wd := ⟨w.ρ, w.h.set a mo, upd w.H (w.ρ a) o⟩
theorem set_keep (ok : w.Ok K) {a : Nat} {mo : MO} {o : HO} (h : a < w.h.length) : w.h.length ≤ (w.set a mo o).h.length ∧ (∀ b, b < w.h.length → (w.set a mo o).ρ b = w.ρ b) ∧ ∀ q u, w.H q = some u → Fz K u → (w.set a mo o).H q = some u := by
  refine ⟨by simp, fun _ _ => rfl, fun q u e f => ?_⟩
  show upd w.H (w.ρ a) o q = some u
  rw [upd_ne (fun z => by
    obtain ⟨o', e', nf⟩ := ok.at h
    rw [z, e'] at e
    cases e
    exact nf f)]
  exact e
theorem nx_set (ok : w.Ok K) {a : Nat} {mo : MO} {o : HO} (h : a < w.h.length) (r : RepO K (w.set a mo o) (w.ρ a) mo) : Nx K w (w.set a mo o) := by
  obtain ⟨le, ag, kf⟩ := set_keep (mo := mo) (o := o) ok h
  refine ⟨⟨fun b c hb hc e => ok.inj b c (by simpa using hb) (by simpa using hc) e, fun b u hu => ?_⟩, le, ag, fun q u e n => ?_, fun b h1 h2 => ?_⟩
  · by_cases e : b = a
    · subst e
      have hu' : (w.h.set b mo)[b]? = some u := hu
      rw [List.getElem?_set_self h] at hu'
      cases hu'
      exact r
    · have hu' : (w.h.set a mo)[b]? = some u := hu
      rw [List.getElem?_set_ne (Ne.symm e)] at hu'
      have hb := (List.getElem?_eq_some_iff.mp hu').1
      refine (ok.obj b u hu').keep le ag kf fun o' z => ?_
      show upd w.H (w.ρ a) o (w.ρ b) = some o'
      rw [upd_ne (fun z => e (ok.inj _ _ hb h z))]
      exact z
  · show upd w.H (w.ρ a) o q = some u
    rw [upd_ne (fun z => n a h z.symm)]
    exact e
  · have h2' : b < w.h.length := by simpa using h2
    omega
end
end M

/-! M1: expressions that compute over data, and that the readings follow -/
namespace M
open PySem PySem.Spec PyProof.Rows L2 Z
abbrev St := L2.St
abbrev EM := Mv → Mh → Rs D
abbrev AM := Mv → Mh → Rs (List D)
abbrev BM := Mv → Mh → Rs Bool
abbrev OM := Mv → Mh → Rs (Option Int)
/-- what is known of the world and the slots, and stays known; the slots that may be stored -/
structure Ph (K : PySem.W.Frag) where
  p : Wd → List (Option V) → Prop
  ok : Nat → Prop
  mono : ∀ w w' σ, w.Ok K → Nx K w w' → p w σ → p w' σ
  st : ∀ w σ (j : Nat) (v : Option V), ok j → p w σ → p w (σ.set j v)
def Ph.tt (K : PySem.W.Frag) : Ph K := ⟨fun _ _ => True, fun _ => True, fun _ _ _ _ _ _ => trivial, fun _ _ _ _ _ _ => trivial⟩
def SlR (K : PySem.W.Frag) (w : Wd) (σ : List (Option V)) (env : Mv) : Prop := σ.length = env.length ∧ ∀ (i : Nat) (d : D), env[i]? = some (some d) → ∃ v : V, σ[i]? = some (some v) ∧ RepV K w d v
theorem SlR.nx {K : PySem.W.Frag} {w w' : Wd} {σ : St} {env : Mv} (r : SlR K w σ env) (ok : w.Ok K) (x : Nx K w w') : SlR K w' σ env := ⟨r.1, fun i d h => by
  obtain ⟨v, e, rv⟩ := r.2 i d h
  exact ⟨v, e, x.v ok rv⟩⟩
def ErrR (K : PySem.W.Frag) (w : Wd) (x : Er) (cls : Value) (d : Option Addr) : Prop := cls = .ref (He.ga K (nm x.c)) ∧ ∃ dd fs, d = some dd ∧ w.H dd = some (.xd fs) ∧ RepF K w x.fs fs
theorem ErrR.nx {K : PySem.W.Frag} {w w' : Wd} {x : Er} {cls : Value} {d : Option Addr} (r : ErrR K w x cls d) (ok : w.Ok K) (y : Nx K w w') : ErrR K w' x cls d := by
  obtain ⟨e, dd, fs, ed, eh, rf⟩ := r
  exact ⟨e, dd, fs, ed, y.fz ok eh trivial, y.f ok rf⟩
section
variable (K : PySem.W.Frag) (Φ : Ph K) (W : WX)
/-- what stands behind a value -/
abbrev PV (w : Wd) (Q : VK) : D → Mh → Prop := fun d h' => ∀ ρ' v H', Nx K w ⟨ρ', h', H'⟩ → RepV K ⟨ρ', h', H'⟩ d v → Q v H'
abbrev PL (w : Wd) (Q : List V → Hp → Prop) : List D → Mh → Prop := fun d h' => ∀ ρ' v H', Nx K w ⟨ρ', h', H'⟩ → RepL K ⟨ρ', h', H'⟩ d v → Q v H'
abbrev PB {α : Type} (w : Wd) (Q : α → Hp → Prop) : α → Mh → Prop := fun b h' => ∀ ρ' H', Nx K w ⟨ρ', h', H'⟩ → Q b H'
abbrev XE (w : Wd) (σ : St) : Er → Mv → Mh → Prop := fun x _ h' => ∀ ρ' cls d H', Nx K w ⟨ρ', h', H'⟩ → ErrR K ⟨ρ', h', H'⟩ x cls d → W cls d σ H'
def SimE (t : TE) (m : EM) : Prop := ∀ (w : Wd) σ env Q, w.Ok K → Φ.p w σ → SlR K w σ env → (m env w.h).sat (PV K w Q) (XE K W w σ) → t σ w.H Q
def SimA (t : TA) (m : AM) : Prop := ∀ (w : Wd) σ env Q, w.Ok K → Φ.p w σ → SlR K w σ env → (m env w.h).sat (PL K w Q) (XE K W w σ) → t σ w.H Q
def SimT (t : TT) (m : BM) : Prop := ∀ (w : Wd) σ env Q, w.Ok K → Φ.p w σ → SlR K w σ env → (m env w.h).sat (PB K w Q) (XE K W w σ) → t σ w.H Q
def SimO (t : TO) (m : OM) : Prop := ∀ (w : Wd) σ env Q, w.Ok K → Φ.p w σ → SlR K w σ env → (m env w.h).sat (PB K w Q) (XE K W w σ) → t σ w.H Q
def Sim1 (r : V → Hp → VK → Prop) (f : D → Mh → Option (D × Mh)) : Prop := ∀ (w : Wd) x vx Q d h', w.Ok K → RepV K w x vx → f x w.h = some (d, h') → PV K w Q d h' → r vx w.H Q
def Sim2 (r : R2) (f : D → D → Mh → Option (D × Mh)) : Prop := ∀ (w : Wd) x y vx vy Q d h', w.Ok K → RepV K w x vx → RepV K w y vy → f x y w.h = some (d, h') → PV K w Q d h' → r vx vy w.H Q
def SimL (r : List V → Hp → VK → Prop) (f : List D → Mh → Option (D × Mh)) : Prop := ∀ (w : Wd) x vx Q d h', w.Ok K → RepL K w x vx → f x w.h = some (d, h') → PV K w Q d h' → r vx w.H Q
def SimM (r : V → List V → Hp → VK → Prop) (f : D → List D → Mh → Option (D × Mh)) : Prop := ∀ (w : Wd) x y vx vy Q d h', w.Ok K → RepV K w x vx → RepL K w y vy → f x y w.h = some (d, h') → PV K w Q d h' → r vx vy w.H Q
def SimSl (r : V → Option Int → Option Int → Hp → VK → Prop) (f : D → Option Int → Option Int → Mh → Option (D × Mh)) : Prop := ∀ (w : Wd) x vx lo hi Q d h', w.Ok K → RepV K w x vx → f x lo hi w.h = some (d, h') → PV K w Q d h' → r vx lo hi w.H Q
end
/-! ### data in, data out -/
abbrev O1 := D → Mh → Option (D × Mh)
abbrev O2 := D → D → Mh → Option (D × Mh)
abbrev OL := List D → Mh → Option (D × Mh)
abbrev OMt := D → List D → Mh → Option (D × Mh)
abbrev OSl := D → Option Int → Option Int → Mh → Option (D × Mh)
def Rs.ofP {α : Type} (o : Option (α × Mh)) : Rs α := match o with
  | some (a, h) => .ok a h
  | none => .no
def Rs.ofO {α : Type} (o : Option α) (h : Mh) : Rs α := match o with
  | some a => .ok a h
  | none => .no
def mVar (i : Nat) (env : Mv) (h : Mh) : Rs D := match env[i]? with
  | some (some d) => .ok d h
  | _ => .no
def mC (d : D) (_ : Mv) (h : Mh) : Rs D := .ok d h
def kOp1 (f : O1) (x : D) (h : Mh) : Rs D := .ofP (f x h)
def mOp1 (f : O1) (a : EM) (env : Mv) (h : Mh) : Rs D := (a env h).bind (kOp1 f)
def kOpB (f : O2) (x y : D) (h : Mh) : Rs D := .ofP (f x y h)
def kOpA (f : O2) (b : EM) (env : Mv) (x : D) (h : Mh) : Rs D := (b env h).bind (kOpB f x)
def mOp (f : O2) (a b : EM) (env : Mv) (h : Mh) : Rs D := (a env h).bind (kOpA f b env)
def mNil (_ : Mv) (h : Mh) : Rs (List D) := .ok [] h
def kConsB (x : D) (xs : List D) (h : Mh) : Rs (List D) := .ok (x :: xs) h
def kConsA (b : AM) (env : Mv) (x : D) (h : Mh) : Rs (List D) := (b env h).bind (kConsB x)
def mCons (a : EM) (b : AM) (env : Mv) (h : Mh) : Rs (List D) := (a env h).bind (kConsA b env)
def kApp (f : OL) (xs : List D) (h : Mh) : Rs D := .ofP (f xs h)
def mApp (f : OL) (a : AM) (env : Mv) (h : Mh) : Rs D := (a env h).bind (kApp f)
def oB : D → Option Bool
  | .bl b => some b
  | _ => none
def kTest (x : D) (h : Mh) : Rs Bool := .ofO (oB x) h
def mTest (a : EM) (env : Mv) (h : Mh) : Rs Bool := (a env h).bind kTest
def kNot (b : Bool) (h : Mh) : Rs Bool := .ok (!b) h
def mNot (a : BM) (env : Mv) (h : Mh) : Rs Bool := (a env h).bind kNot
def kAnd (b : BM) (env : Mv) (c : Bool) (h : Mh) : Rs Bool := if c = true then b env h else .ok false h
def mAnd (a b : BM) (env : Mv) (h : Mh) : Rs Bool := (a env h).bind (kAnd b env)
def kOr (b : BM) (env : Mv) (c : Bool) (h : Mh) : Rs Bool := if c = true then .ok true h else b env h
def mOr (a b : BM) (env : Mv) (h : Mh) : Rs Bool := (a env h).bind (kOr b env)
def kAndV2 (b : EM) (env : Mv) (c : Bool) (h : Mh) : Rs D := if c = true then b env h else .ok (.bl false) h
def kAndV (b : EM) (env : Mv) (x : D) (h : Mh) : Rs D := (Rs.ofO (oB x) h).bind (kAndV2 b env)
def mAndV (a b : EM) (env : Mv) (h : Mh) : Rs D := (a env h).bind (kAndV b env)
def kOrV2 (b : EM) (env : Mv) (c : Bool) (h : Mh) : Rs D := if c = true then .ok (.bl true) h else b env h
def kOrV (b : EM) (env : Mv) (x : D) (h : Mh) : Rs D := (Rs.ofO (oB x) h).bind (kOrV2 b env)
def mOrV (a b : EM) (env : Mv) (h : Mh) : Rs D := (a env h).bind (kOrV b env)
def kNotV2 (c : Bool) (h : Mh) : Rs D := .ok (.bl (!c)) h
def kNotV (x : D) (h : Mh) : Rs D := (Rs.ofO (oB x) h).bind kNotV2
def mNotV (a : EM) (env : Mv) (h : Mh) : Rs D := (a env h).bind kNotV
def kIfE (a b : EM) (env : Mv) (c : Bool) (h : Mh) : Rs D := if c = true then a env h else b env h
def mIfE (c : BM) (a b : EM) (env : Mv) (h : Mh) : Rs D := (c env h).bind (kIfE a b env)
def kChD (g : O2) (c : EM) (env : Mv) (y : D) (k : Bool) (h : Mh) : Rs D := if k = true then (c env h).bind (kOpB g y) else .ok (.bl false) h
def kChC (g : O2) (c : EM) (env : Mv) (y k : D) (h : Mh) : Rs D := (Rs.ofO (oB k) h).bind (kChD g c env y)
def kChB (f g : O2) (c : EM) (env : Mv) (x y : D) (h : Mh) : Rs D := (Rs.ofP (f x y h)).bind (kChC g c env y)
def kChA (f g : O2) (b c : EM) (env : Mv) (x : D) (h : Mh) : Rs D := (b env h).bind (kChB f g c env x)
def mChain (f g : O2) (a b c : EM) (env : Mv) (h : Mh) : Rs D := (a env h).bind (kChA f g b c env)
def lstAt (h : Mh) (a : Nat) : Option (List D) := match h[a]? with
  | some (.lst ds) => some ds
  | _ => none
def seqOf (h : Mh) : D → Option (List D)
  | .tup ds => some ds
  | .scr ds => some ds
  | .ref a => lstAt h a
  | _ => none
def truOf (h : Mh) : D → Option Bool
  | .non => some false
  | .bl b => some b
  | .int i => some (i != 0)
  | .str y => if y.length ≤ sizeLine then some ((y.length : Int) != 0) else none
  | x => (seqOf h x).map fun xs => !xs.isEmpty
def kT (x : D) (h : Mh) : Rs Bool := .ofO (truOf h x) h
def mT (a : EM) (env : Mv) (h : Mh) : Rs Bool := (a env h).bind kT
def mNone (_ : Mv) (h : Mh) : Rs (Option Int) := .ok none h
def oI : D → Option Int
  | .int i => some i
  | _ => none
def kPart (x : D) (h : Mh) : Rs (Option Int) := .ofO ((oI x).map some) h
def mPart (a : EM) (env : Mv) (h : Mh) : Rs (Option Int) := (a env h).bind kPart
def kSlC (f : OSl) (x : D) (l u : Option Int) (h : Mh) : Rs D := .ofP (f x l u h)
def kSlB (f : OSl) (u : OM) (env : Mv) (x : D) (l : Option Int) (h : Mh) : Rs D := (u env h).bind (kSlC f x l)
def kSlA (f : OSl) (l u : OM) (env : Mv) (x : D) (h : Mh) : Rs D := (l env h).bind (kSlB f u env x)
def mSl (f : OSl) (a : EM) (l u : OM) (env : Mv) (h : Mh) : Rs D := (a env h).bind (kSlA f l u env)
/-! ### that the readings follow -/
section
variable {K : PySem.W.Frag} {Φ : Ph K} {W : WX} {ta tb tc te : TE} {a b c : EM} {t : TA} {m : AM} {tA tB : TT} {mA mB : BM}
theorem nx0 {w : Wd} (ok : w.Ok K) {ρ' : Nat → Addr} {h' : Mh} {H' : Hp} (x : Nx K w ⟨ρ', h', H'⟩) : Nx K w ⟨ρ', h', H'⟩ := x
theorem PV.tr {w w' : Wd} {Q : VK} (x : Nx K w w') : ∀ d h', PV K w Q d h' → PV K w' Q d h' := fun _ _ p ρ v H y r => p ρ v H (x.trans y) r
theorem PL.tr {w w' : Wd} {Q : List V → Hp → Prop} (x : Nx K w w') : ∀ d h', PL K w Q d h' → PL K w' Q d h' := fun _ _ p ρ v H y r => p ρ v H (x.trans y) r
theorem PB.tr {α : Type} {w w' : Wd} {Q : α → Hp → Prop} (x : Nx K w w') : ∀ d h', PB K w Q d h' → PB K w' Q d h' := fun _ _ p ρ H y => p ρ H (x.trans y)
theorem XE.tr {w w' : Wd} {σ : St} (x : Nx K w w') : ∀ e v h', XE K W w σ e v h' → XE K W w' σ e v h' := fun _ _ _ p ρ c d H y r => p ρ c d H (x.trans y) r
theorem ofO_sat {α : Type} {o : Option α} {h : Mh} {P : α → Mh → Prop} {E : Er → Mv → Mh → Prop} (s : (Rs.ofO o h).sat P E) : ∃ x, o = some x ∧ P x h := by
  cases o with
  | none => exact s.elim
  | some x => exact ⟨x, rfl, s⟩
theorem ofP_sat {α : Type} {o : Option (α × Mh)} {P : α → Mh → Prop} {E : Er → Mv → Mh → Prop} (s : (Rs.ofP o).sat P E) : ∃ x h, o = some (x, h) ∧ P x h := by
  cases o with
  | none => exact s.elim
  | some x => exact ⟨x.1, x.2, rfl, s⟩
theorem oB_some {x : D} {c : Bool} (h : oB x = some c) : x = .bl c := by
  cases x <;> first | (cases h; rfl) | cases h
theorem oI_some {x : D} {c : Int} (h : oI x = some c) : x = .int c := by
  cases x <;> first | (cases h; rfl) | cases h
theorem rb {w : Wd} {c : Bool} {v : V} (r : RepV K w (.bl c) v) : v = .bl c := by unfold RepV at r; exact r
theorem ri {w : Wd} {c : Int} {v : V} (r : RepV K w (.int c) v) : v = .int c := by unfold RepV at r; exact r
theorem rs {w : Wd} {c : Str} {v : V} (r : RepV K w (.str c) v) : v = .str c := by unfold RepV at r; exact r
theorem rn {w : Wd} {v : V} (r : RepV K w .non v) : v = .non := by unfold RepV at r; exact r
theorem rr {w : Wd} {a : Nat} {v : V} (r : RepV K w (.ref a) v) : a < w.h.length ∧ v = .ref (w.ρ a) := by unfold RepV at r; exact r
theorem rt {w : Wd} {ds : List D} {v : V} (r : RepV K w (.tup ds) v) : ∃ p vs, v = .ref p ∧ SqT K w.H p vs ∧ RepL K w ds vs := by unfold RepV at r; exact r
theorem rc {w : Wd} {ds : List D} {v : V} (r : RepV K w (.scr ds) v) : ∃ p vs, v = .ref p ∧ FzL K w.H p vs ∧ RepL K w ds vs := by unfold RepV at r; exact r
theorem rk {w : Wd} {u d : Int} {z : Str} {v : V} (r : RepV K w (.kin u d z) v) : ∃ p dx, v = .ref p ∧ w.H p = some (.ins (kinC K) dx (kinF u d z)) := by unfold RepV at r; exact r
theorem wb {w : Wd} {c : Bool} : RepV K w (.bl c) (.bl c) := by unfold RepV; rfl
theorem wi {w : Wd} {c : Int} : RepV K w (.int c) (.int c) := by unfold RepV; rfl
theorem ws {w : Wd} {c : Str} : RepV K w (.str c) (.str c) := by unfold RepV; rfl
theorem wn {w : Wd} : RepV K w .non .non := by unfold RepV; rfl
theorem rl0 {w : Wd} {vs : List V} (r : RepL K w [] vs) : vs = [] := by unfold RepL at r; exact r
theorem rl1 {w : Wd} {d : D} {ds : List D} {vs : List V} (r : RepL K w (d :: ds) vs) : ∃ v ws, vs = v :: ws ∧ RepV K w d v ∧ RepL K w ds ws := by unfold RepL at r; exact r
theorem wl0 {w : Wd} : RepL K w [] [] := by unfold RepL; rfl
theorem wl1 {w : Wd} {d : D} {ds : List D} {v : V} {vs : List V} (r : RepV K w d v) (t : RepL K w ds vs) : RepL K w (d :: ds) (v :: vs) := by unfold RepL; exact ⟨v, vs, rfl, r, t⟩
theorem sim_var (i : Nat) : SimE K Φ W (zVar i) (mVar i) := by
  intro w σ env Q ok φ sl s
  unfold mVar at s
  split at s
  · rename_i d e
    obtain ⟨v, ev, r⟩ := sl.2 i d e
    exact zv_iff.mpr ⟨v, ev, s _ _ _ (Nx.refl ok) r⟩
  · exact s.elim
theorem sim_c {d : D} {v : V} (r : ∀ w : Wd, RepV K w d v) : SimE K Φ W (tC v) (mC d) := fun w σ env Q ok φ sl s => s _ _ _ (Nx.refl ok) (r _)
/-- one part, then what follows -/
theorem SimE.go (ha : SimE K Φ W ta a) {w : Wd} {σ : St} {env : Mv} (ok : w.Ok K) (φ : Φ.p w σ) (sl : SlR K w σ env) {β : Type} {k : D → Mh → Rs β} {P : β → Mh → Prop} (s : ((a env w.h).bind k).sat P (XE K W w σ)) {Q : VK}
    (g : ∀ (w1 : Wd) d v, Nx K w w1 → w1.Ok K → Φ.p w1 σ → SlR K w1 σ env → RepV K w1 d v → (k d w1.h).sat P (XE K W w1 σ) → Q v w1.H) : ta σ w.H Q := by
  refine ha w σ env _ ok φ sl ((Rs.sat_bind.mp s).mono (fun x h1 p ρ1 v1 H1 n1 r1 => ?_) fun _ _ _ e => e)
  exact g ⟨ρ1, h1, H1⟩ x v1 n1 n1.ok (Φ.mono _ _ _ ok n1 φ) (sl.nx ok n1) r1 (p.mono (fun _ _ z => z) (XE.tr n1))
theorem SimA.go (ha : SimA K Φ W t m) {w : Wd} {σ : St} {env : Mv} (ok : w.Ok K) (φ : Φ.p w σ) (sl : SlR K w σ env) {β : Type} {k : List D → Mh → Rs β} {P : β → Mh → Prop} (s : ((m env w.h).bind k).sat P (XE K W w σ)) {Q : List V → Hp → Prop}
    (g : ∀ (w1 : Wd) d v, Nx K w w1 → w1.Ok K → Φ.p w1 σ → SlR K w1 σ env → RepL K w1 d v → (k d w1.h).sat P (XE K W w1 σ) → Q v w1.H) : t σ w.H Q := by
  refine ha w σ env _ ok φ sl ((Rs.sat_bind.mp s).mono (fun x h1 p ρ1 v1 H1 n1 r1 => ?_) fun _ _ _ e => e)
  exact g ⟨ρ1, h1, H1⟩ x v1 n1 n1.ok (Φ.mono _ _ _ ok n1 φ) (sl.nx ok n1) r1 (p.mono (fun _ _ z => z) (XE.tr n1))
theorem SimT.go (ha : SimT K Φ W tA mA) {w : Wd} {σ : St} {env : Mv} (ok : w.Ok K) (φ : Φ.p w σ) (sl : SlR K w σ env) {β : Type} {k : Bool → Mh → Rs β} {P : β → Mh → Prop} (s : ((mA env w.h).bind k).sat P (XE K W w σ)) {Q : Bool → Hp → Prop}
    (g : ∀ (w1 : Wd) d, Nx K w w1 → w1.Ok K → Φ.p w1 σ → SlR K w1 σ env → (k d w1.h).sat P (XE K W w1 σ) → Q d w1.H) : tA σ w.H Q := by
  refine ha w σ env _ ok φ sl ((Rs.sat_bind.mp s).mono (fun x h1 p ρ1 H1 n1 => ?_) fun _ _ _ e => e)
  exact g ⟨ρ1, h1, H1⟩ x n1 n1.ok (Φ.mono _ _ _ ok n1 φ) (sl.nx ok n1) (p.mono (fun _ _ z => z) (XE.tr n1))
theorem SimO.go {to : TO} {mo : OM} (ha : SimO K Φ W to mo) {w : Wd} {σ : St} {env : Mv} (ok : w.Ok K) (φ : Φ.p w σ) (sl : SlR K w σ env) {β : Type} {k : Option Int → Mh → Rs β} {P : β → Mh → Prop} (s : ((mo env w.h).bind k).sat P (XE K W w σ)) {Q : Option Int → Hp → Prop}
    (g : ∀ (w1 : Wd) d, Nx K w w1 → w1.Ok K → Φ.p w1 σ → SlR K w1 σ env → (k d w1.h).sat P (XE K W w1 σ) → Q d w1.H) : to σ w.H Q := by
  refine ha w σ env _ ok φ sl ((Rs.sat_bind.mp s).mono (fun x h1 p ρ1 H1 n1 => ?_) fun _ _ _ e => e)
  exact g ⟨ρ1, h1, H1⟩ x n1 n1.ok (Φ.mono _ _ _ ok n1 φ) (sl.nx ok n1) (p.mono (fun _ _ z => z) (XE.tr n1))
theorem sim_op1 {r : V → Hp → VK → Prop} {f : O1} (hr : Sim1 K r f) (ha : SimE K Φ W ta a) : SimE K Φ W (tUn r ta) (mOp1 f a) := by
  intro w σ env Q ok φ sl s
  refine ha.go ok φ sl s fun w1 d v n1 ok1 φ1 sl1 r1 s1 => ?_
  obtain ⟨x, h', e, p⟩ := ofP_sat s1
  exact hr w1 d v _ x h' ok1 r1 e (PV.tr n1 _ _ p)
theorem sim_op {r : R2} {f : O2} (hr : Sim2 K r f) (ha : SimE K Φ W ta a) (hb : SimE K Φ W tb b) : SimE K Φ W (tOp r ta tb) (mOp f a b) := by
  intro w σ env Q ok φ sl s
  refine ha.go ok φ sl s fun w1 d v n1 ok1 φ1 sl1 r1 s1 => ?_
  refine hb.go ok1 φ1 sl1 s1 fun w2 d2 v2 n2 ok2 φ2 sl2 r2 s2 => ?_
  obtain ⟨x, h', e, p⟩ := ofP_sat s2
  exact hr w2 d d2 v v2 _ x h' ok2 (n2.v ok1 r1) r2 e (PV.tr (n1.trans n2) _ _ p)
theorem sim_nil : SimA K Φ W tNil mNil := fun w σ env Q ok φ sl s => s _ _ _ (Nx.refl ok) wl0
theorem sim_cons (ha : SimE K Φ W ta a) (hm : SimA K Φ W t m) : SimA K Φ W (tCons ta t) (mCons a m) := by
  intro w σ env Q ok φ sl s
  refine ha.go ok φ sl s fun w1 d v n1 ok1 φ1 sl1 r1 s1 => ?_
  refine hm.go ok1 φ1 sl1 s1 fun w2 d2 v2 n2 ok2 φ2 sl2 r2 s2 => ?_
  exact s2 _ _ _ (n1.trans n2) (wl1 (n2.v ok1 r1) r2)
theorem sim_app {r : List V → Hp → VK → Prop} {f : OL} (hr : SimL K r f) (ha : SimA K Φ W t m) : SimE K Φ W (tCB r t) (mApp f m) := by
  intro w σ env Q ok φ sl s
  refine ha.go ok φ sl s fun w1 d v n1 ok1 φ1 sl1 r1 s1 => ?_
  obtain ⟨x, h', e, p⟩ := ofP_sat s1
  exact hr w1 d v _ x h' ok1 r1 e (PV.tr n1 _ _ p)
theorem sim_test (ha : SimE K Φ W ta a) : SimT K Φ W (zTest ta) (mTest a) := by
  intro w σ env Q ok φ sl s
  refine ha.go ok φ sl s fun w1 d v n1 ok1 φ1 sl1 r1 s1 => ?_
  obtain ⟨c, e, p⟩ := ofO_sat s1
  have e2 := oB_some e
  subst e2
  cases rb r1
  exact p _ _ n1
theorem sim_not (ha : SimT K Φ W tA mA) : SimT K Φ W (tNot tA) (mNot mA) := by
  intro w σ env Q ok φ sl s
  refine ha.go ok φ sl s fun w1 d n1 ok1 φ1 sl1 s1 => ?_
  exact s1 _ _ n1
theorem sim_and (ha : SimT K Φ W tA mA) (hb : SimT K Φ W tB mB) : SimT K Φ W (zAnd tA tB) (mAnd mA mB) := by
  intro w σ env Q ok φ sl s
  refine ha.go ok φ sl s fun w1 d n1 ok1 φ1 sl1 s1 => ?_
  unfold kAnd at s1
  refine ⟨fun c => ?_, fun c => ?_⟩
  · rw [if_pos c] at s1
    exact hb w1 σ env _ ok1 φ1 sl1 (s1.mono (PB.tr n1) fun _ _ _ e => e)
  · rw [if_neg c] at s1
    exact s1 _ _ n1
theorem sim_or (ha : SimT K Φ W tA mA) (hb : SimT K Φ W tB mB) : SimT K Φ W (zOr tA tB) (mOr mA mB) := by
  intro w σ env Q ok φ sl s
  refine ha.go ok φ sl s fun w1 d n1 ok1 φ1 sl1 s1 => ?_
  unfold kOr at s1
  refine ⟨fun c => ?_, fun c => ?_⟩
  · rw [if_pos c] at s1
    exact s1 _ _ n1
  · rw [if_neg c] at s1
    exact hb w1 σ env _ ok1 φ1 sl1 (s1.mono (PB.tr n1) fun _ _ _ e => e)
theorem oB_sat {β : Type} {x : D} {h : Mh} {k : Bool → Mh → Rs β} {P : β → Mh → Prop} {E : Er → Mv → Mh → Prop} (s : ((Rs.ofO (oB x) h).bind k).sat P E) : ∃ c, x = .bl c ∧ (k c h).sat P E := by
  obtain ⟨c, e, p⟩ := ofO_sat (Rs.sat_bind.mp s)
  exact ⟨c, oB_some e, p⟩
theorem sim_andV (ha : SimE K Φ W ta a) (hb : SimE K Φ W tb b) : SimE K Φ W (zAndV ta tb) (mAndV a b) := by
  intro w σ env Q ok φ sl s
  refine ha.go ok φ sl s fun w1 d v n1 ok1 φ1 sl1 r1 s1 => ?_
  obtain ⟨c, e, s2⟩ := oB_sat s1
  subst e
  cases rb r1
  unfold kAndV2 at s2
  refine ⟨fun c => ?_, fun c => ?_⟩
  · rw [if_pos c] at s2
    exact hb w1 σ env _ ok1 φ1 sl1 (s2.mono (PV.tr n1) fun _ _ _ e => e)
  · rw [if_neg c] at s2
    exact s2 _ _ _ n1 wb
theorem sim_orV (ha : SimE K Φ W ta a) (hb : SimE K Φ W tb b) : SimE K Φ W (zOrV ta tb) (mOrV a b) := by
  intro w σ env Q ok φ sl s
  refine ha.go ok φ sl s fun w1 d v n1 ok1 φ1 sl1 r1 s1 => ?_
  obtain ⟨c, e, s2⟩ := oB_sat s1
  subst e
  cases rb r1
  unfold kOrV2 at s2
  refine ⟨fun c => ?_, fun c => ?_⟩
  · rw [if_pos c] at s2
    exact s2 _ _ _ n1 wb
  · rw [if_neg c] at s2
    exact hb w1 σ env _ ok1 φ1 sl1 (s2.mono (PV.tr n1) fun _ _ _ e => e)
theorem sim_notV (ha : SimE K Φ W ta a) : SimE K Φ W (zNotV ta) (mNotV a) := by
  intro w σ env Q ok φ sl s
  refine ha.go ok φ sl s fun w1 d v n1 ok1 φ1 sl1 r1 s1 => ?_
  obtain ⟨c, e, s2⟩ := oB_sat s1
  subst e
  cases rb r1
  exact s2 _ _ _ n1 wb
theorem sim_ifE (hc : SimT K Φ W tA mA) (ha : SimE K Φ W ta a) (hb : SimE K Φ W tb b) : SimE K Φ W (zIfE tA ta tb) (mIfE mA a b) := by
  intro w σ env Q ok φ sl s
  refine hc.go ok φ sl s fun w1 d n1 ok1 φ1 sl1 s1 => ?_
  unfold kIfE at s1
  refine ⟨fun c => ?_, fun c => ?_⟩
  · rw [if_pos c] at s1
    exact ha w1 σ env _ ok1 φ1 sl1 (s1.mono (PV.tr n1) fun _ _ _ e => e)
  · rw [if_neg c] at s1
    exact hb w1 σ env _ ok1 φ1 sl1 (s1.mono (PV.tr n1) fun _ _ _ e => e)
theorem sim_chain {r r' : R2} {f g : O2} (hr : Sim2 K r f) (hr' : Sim2 K r' g) (ha : SimE K Φ W ta a) (hb : SimE K Φ W tb b) (hc : SimE K Φ W tc c) : SimE K Φ W (zChain r r' ta tb tc) (mChain f g a b c) := by
  intro w σ env Q ok φ sl s
  refine ha.go ok φ sl s fun w1 d v n1 ok1 φ1 sl1 r1 s1 => ?_
  refine hb.go ok1 φ1 sl1 s1 fun w2 d2 v2 n2 ok2 φ2 sl2 r2 s2 => ?_
  obtain ⟨x, h', e, p⟩ := ofP_sat (Rs.sat_bind.mp s2)
  obtain ⟨k, ek, s3⟩ := oB_sat p
  subst ek
  refine hr w2 d d2 v v2 _ (.bl k) h' ok2 (n2.v ok1 r1) r2 e fun ρ' v' H' n3 r3 => ?_
  cases rb r3
  have n13 := (n1.trans n2).trans n3
  have φ3 := Φ.mono _ _ _ ok2 n3 φ2
  unfold kChD at s3
  refine ⟨fun c => ?_, fun c => ?_⟩
  · rw [if_pos c] at s3
    refine hc.go (w := ⟨ρ', h', H'⟩) n3.ok φ3 (sl2.nx ok2 n3) (s3.mono (fun _ _ z => z) (XE.tr n3)) fun w4 d4 v4 n4 ok4 φ4 sl4 r4 s4 => ?_
    obtain ⟨x, h'', e, p⟩ := ofP_sat s4
    exact hr' w4 d2 d4 v2 v4 _ x h'' ok4 ((n3.trans n4).v ok2 r2) r4 e (PV.tr (n13.trans n4) _ _ p)
  · rw [if_neg c] at s3
    exact s3 _ _ _ n13 wb
theorem sim_po (ha : SimE K Φ W ta a) : SimO K Φ W (zPart ta) (mPart a) := by
  intro w σ env Q ok φ sl s
  refine ha.go ok φ sl s fun w1 d v n1 ok1 φ1 sl1 r1 s1 => ?_
  obtain ⟨x, e, p⟩ := ofO_sat s1
  obtain ⟨i, ei, rfl⟩ := Option.map_eq_some_iff.mp e
  have e2 := oI_some ei
  subst e2
  cases ri r1
  exact p _ _ n1
theorem sim_sl {r : V → Option Int → Option Int → Hp → VK → Prop} {f : OSl} {tl tu : TO} {ml mu : OM} (hr : SimSl K r f) (ha : SimE K Φ W ta a) (hl : SimO K Φ W tl ml) (hu : SimO K Φ W tu mu) : SimE K Φ W (L2.tSl r ta tl tu) (mSl f a ml mu) := by
  intro w σ env Q ok φ sl s
  refine ha.go ok φ sl s fun w1 d v n1 ok1 φ1 sl1 r1 s1 => ?_
  refine hl.go ok1 φ1 sl1 s1 fun w2 l n2 ok2 φ2 sl2 s2 => ?_
  refine hu.go ok2 φ2 sl2 s2 fun w3 u n3 ok3 φ3 sl3 s3 => ?_
  obtain ⟨x, h', e, p⟩ := ofP_sat s3
  exact hr w3 d v l u _ x h' ok3 ((n2.trans n3).v ok1 r1) e (PV.tr ((n1.trans n2).trans n3) _ _ p)
end
end M

/-! M2: operators, items, built-in functions and methods over data -/
namespace M
open PySem PySem.Spec PyProof.Rows L2 Z
instance {i j : Int} : Decidable (CMul i j) := by unfold CMul; infer_instance
instance {i j : Int} : Decidable (CDivW i j) := by unfold CDivW; infer_instance
instance {i j : Int} : Decidable (CPow i j) := by unfold CPow; infer_instance
/-- scalars -/
def scD : D → Option V
  | .non => some .non
  | .bl b => some (.bl b)
  | .int i => some (.int i)
  | .str x => some (.str x)
  | _ => none
def i2 (C : Int → Int → Bool) (g : Int → Int → D) : O2 := fun x y h => match x, y with
  | .int i, .int j => if C i j = true then some (g i j, h) else none
  | _, _ => none
def i20 (g : Int → Int → D) : O2 := fun x y h => match x, y with
  | .int i, .int j => some (g i j, h)
  | _, _ => none
def oSub : O2 := i20 fun i j => .int (i - j)
def oMul : O2 := i2 (fun i j => decide (CMul i j)) fun i j => .int (i * j)
def oFdv : O2 := i2 (fun i j => decide (CDivW i j)) fun i j => .int (i / j)
def oMod : O2 := i2 (fun _ j => decide (0 < j)) fun i j => .int (i % j)
def oPow : O2 := i2 (fun i j => decide (CPow i j)) fun i j => .int (i ^ j.toNat)
def oLt : O2 := i20 fun i j => .bl (decide (i < j))
def oLe : O2 := i20 fun i j => .bl (decide (i ≤ j))
def oGt : O2 := i20 fun i j => .bl (decide (j < i))
def oGe : O2 := i20 fun i j => .bl (decide (j ≤ i))
def newO (mo : MO) (h : Mh) : Option (D × Mh) := some (.ref h.length, h ++ [mo])
def oAdd : O2 := fun x y h => match x, y with
  | .int i, .int j => some (.int (i + j), h)
  | .str a, .str b => if a.length + b.length ≤ sizeLine then some (.str (a ++ b), h) else none
  | .ref a, .ref b => match h[a]?, h[b]? with
    | some (.lst xs), some (.lst ys) => if xs.length + ys.length ≤ sizeLine then newO (.lst (xs ++ ys)) h else none
    | _, _ => none
  | _, _ => none
def eqD : D → D → Option Bool
  | .int i, .int j => some (decide (i = j))
  | .str a, .str b => some (decide (a = b))
  | .bl a, .bl b => some (decide (a = b))
  | .non, .non => some true
  | .non, .int _ => some false
  | .int _, .non => some false
  | .non, .bl _ => some false
  | .bl _, .non => some false
  | .non, .str _ => some false
  | .str _, .non => some false
  | .int _, .str _ => some false
  | .str _, .int _ => some false
  | .bl _, .str _ => some false
  | .str _, .bl _ => some false
  | _, _ => none
def oEq : O2 := fun x y h => (eqD x y).map fun b => (.bl b, h)
def oNe : O2 := fun x y h => (eqD x y).map fun b => (.bl (!b), h)
def isNon : D → Bool
  | .non => true
  | _ => false
def oIsN : O2 := fun x y h => match y with
  | .non => some (.bl (isNon x), h)
  | _ => none
def oIsNN : O2 := fun x y h => match y with
  | .non => some (.bl (!isNon x), h)
  | _ => none
/-- x in y, y a text (x one sign), a list or a tuple of scalars -/
def inD (h : Mh) (x y : D) : Option Bool := match y with
  | .str z => match x with
    | .str a => match a.cps.toList with
      | [c] => some (decide (c ∈ z.cps.toList))
      | _ => none
    | _ => none
  | y => match scD x, (seqOf h y).bind (fun ys => ys.mapM scD) with
    | some v, some vs => some (inV v vs)
    | _, _ => none
def oIn : O2 := fun x y h => (inD h x y).map fun b => (.bl b, h)
def oNotIn : O2 := fun x y h => (inD h x y).map fun b => (.bl (!b), h)
def oNeg : O1 := fun x h => match x with
  | .int i => some (.int (-i), h)
  | _ => none
def oIx : O2 := fun x y h => match y with
  | .int i => match x with
    | .str z => if z.length ≤ sizeLine then (atI z.cps.toList i).map fun c => (.str ⟨#[c]⟩, h) else none
    | x => (seqOf h x).bind fun xs => (atI xs i).map fun d => (d, h)
  | _ => none
def cutD (xs : List D) (lo hi : Option Int) : List D := (xs.drop (HT.sIx xs.length 0 lo)).take (HT.sIx xs.length xs.length hi - HT.sIx xs.length 0 lo)
def oSl : OSl := fun x lo hi h => match x with
  | .str z => if z.length ≤ sizeLine then some (.str (cutS z lo hi), h) else none
  | .ref a => match h[a]? with
    | some (.lst xs) => newO (.lst (cutD xs lo hi)) h
    | _ => none
  | .tup xs => if HT.sIx xs.length 0 lo = 0 ∧ HT.sIx xs.length xs.length hi = xs.length then some (.tup xs, h) else some (.tup (cutD xs lo hi), h)
  | _ => none
def oLen : OL := fun vs h => match vs with
  | [.str z] => if z.length ≤ sizeLine then some (.int z.length, h) else none
  | [x] => (seqOf h x).map fun xs => (.int xs.length, h)
  | _ => none
def oInt : OL := fun vs h => match vs with
  | [.int i] => some (.int i, h)
  | [.str a] => if a.length ≤ 640 then (PySem.intText? a).map fun n => (.int n, h) else none
  | _ => none
def oStr : OL := fun vs h => match vs with
  | [.int i] => if i.natAbs.log2 < 1920 then some (.str (toString i), h) else none
  | _ => none
def oList : OL := fun vs h => match vs with
  | [x] => (seqOf h x).bind fun xs => newO (.lst xs) h
  | _ => none
def oMin : OL := fun vs h => match vs with
  | [.int i, .int j] => some (.int (if j < i then j else i), h)
  | _ => none
def oMax : OL := fun vs h => match vs with
  | [.int i, .int j] => some (.int (if j > i then j else i), h)
  | _ => none
def oAbs : OL := fun vs h => match vs with
  | [.int i] => some (.int (if i < 0 then -i else i), h)
  | _ => none
def oAppend : OMt := fun x vs h => match x, vs with
  | .ref a, [y] => (lstAt h a).bind fun xs => if xs.length < sizeLine then some (.non, h.set a (.lst (xs ++ [y]))) else none
  | _, _ => none
def oPop : OMt := fun x vs h => match x, vs with
  | .ref a, [] => (lstAt h a).bind fun xs => (xs[xs.length - 1]?).map fun y => (y, h.set a (.lst xs.dropLast))
  | _, _ => none
def oReverse : OMt := fun x vs h => match x, vs with
  | .ref a, [] => (lstAt h a).map fun xs => (.non, h.set a (.lst xs.reverse))
  | _, _ => none
def oS2 (g : Str → Str → D) : OMt := fun x vs h => match x, vs with
  | .str a, [.str b] => some (g a b, h)
  | _, _ => none
def oFind : OMt := oS2 fun a b => .int (Txt.find a b)
def oEnds : OMt := oS2 fun a b => .bl (Txt.endswith a b)
def oStarts : OMt := oS2 fun a b => .bl (Txt.startswith a b)
def oSplit : OMt := fun x vs h => match x, vs with
  | .str a, [.str b] => if (b.length == 0) = false ∧ a.length + 2 ≤ sizeLine then newO (.lst ((Txt.split a b).map D.str)) h else none
  | _, _ => none
def ixS (z : Str) : List D → Option Nat
  | [] => none
  | .str y :: r => if y = z then some 0 else (ixS z r).map (· + 1)
  | _ :: _ => none
def strD : D → Option Str
  | .str z => some z
  | _ => none
/-- t.index(text), t a tuple of texts -/
def oTIndex : OMt := fun x vs h => match x, vs with
  | .tup ds, [.str z] => match ds.mapM strD with
    | some ys => match ys.findIdx? (fun y => decide (y = z)) with
      | some j => some (.int (j : Nat), h)
      | none => none
    | none => none
  | _, _ => none
def mkTup (ds : List D) (h : Mh) : Option (D × Mh) := if ds.length ≤ sizeLine then some (.tup ds, h) else none
def mkLst (ds : List D) (h : Mh) : Option (D × Mh) := if ds.length ≤ sizeLine then newO (.lst ds) h else none
/-- xs[i] = v -/
def oSetIx (o i v : D) (h : Mh) : Option Mh := match o, i with
  | .ref a, .int k => (lstAt h a).bind fun xs => (ixN xs.length k).map fun j => h.set a (.lst (xs.set j v))
  | _, _ => none
section
variable {K : PySem.W.Frag} {w : Wd}
theorem RepL.len : ∀ {ds : List D} {vs : List V}, RepL K w ds vs → vs.length = ds.length
  | [], _, h => by rw [rl0 h]; rfl
  | d :: ds, _, h => by
    obtain ⟨v, ws, rfl, _, t⟩ := rl1 h
    rw [List.length_cons, List.length_cons, RepL.len t]
theorem RepL.at : ∀ {ds : List D} {vs : List V} {i : Nat} {d : D}, RepL K w ds vs → ds[i]? = some d → ∃ v, vs[i]? = some v ∧ RepV K w d v
  | [], _, _, _, _, e => by simp at e
  | d :: ds, _, 0, _, h, e => by
    obtain ⟨v, ws, rfl, r, t⟩ := rl1 h
    cases e
    exact ⟨v, rfl, r⟩
  | d :: ds, _, i + 1, _, h, e => by
    obtain ⟨v, ws, rfl, r, t⟩ := rl1 h
    obtain ⟨u, e2, r2⟩ := RepL.at t (by simpa using e)
    exact ⟨u, by simpa using e2, r2⟩
theorem RepL.set : ∀ {ds : List D} {vs : List V} (i : Nat) {d : D} {v : V}, RepL K w ds vs → RepV K w d v → RepL K w (ds.set i d) (vs.set i v)
  | [], _, _, _, _, h, r => by rw [rl0 h]; exact wl0
  | d :: ds, _, 0, _, _, h, r => by
    obtain ⟨v, ws, rfl, _, t⟩ := rl1 h
    exact wl1 r t
  | d :: ds, _, i + 1, _, _, h, r => by
    obtain ⟨v, ws, rfl, r0, t⟩ := rl1 h
    exact wl1 r0 (RepL.set i t r)
theorem RepL.app : ∀ {ds es : List D} {vs us : List V}, RepL K w ds vs → RepL K w es us → RepL K w (ds ++ es) (vs ++ us)
  | [], _, _, _, h, r => by rw [rl0 h]; exact r
  | d :: ds, _, _, _, h, r => by
    obtain ⟨v, ws, rfl, r0, t⟩ := rl1 h
    exact wl1 r0 (RepL.app t r)
theorem RepL.drop : ∀ {ds : List D} {vs : List V} (n : Nat), RepL K w ds vs → RepL K w (ds.drop n) (vs.drop n)
  | _, _, 0, h => by simpa using h
  | [], _, _ + 1, h => by rw [rl0 h]; exact wl0
  | d :: ds, _, n + 1, h => by
    obtain ⟨v, ws, rfl, r0, t⟩ := rl1 h
    exact RepL.drop n t
theorem RepL.take : ∀ {ds : List D} {vs : List V} (n : Nat), RepL K w ds vs → RepL K w (ds.take n) (vs.take n)
  | _, _, 0, h => by simpa using wl0
  | [], _, _ + 1, h => by rw [rl0 h]; exact wl0
  | d :: ds, _, n + 1, h => by
    obtain ⟨v, ws, rfl, r0, t⟩ := rl1 h
    exact wl1 r0 (RepL.take n t)
theorem RepL.rev {ds : List D} {vs : List V} (h : RepL K w ds vs) : RepL K w ds.reverse vs.reverse := by
  induction ds generalizing vs with
  | nil => rw [rl0 h]; exact wl0
  | cons d ds ih =>
    obtain ⟨v, ws, rfl, r0, t⟩ := rl1 h
    rw [List.reverse_cons, List.reverse_cons]
    exact (ih t).app (wl1 r0 wl0)
theorem RepL.strs {ys : List Str} : RepL K w (ys.map D.str) (ys.map V.str) := by
  induction ys with
  | nil => exact wl0
  | cons y ys ih => exact wl1 ws ih
theorem RepL.ints {ys : List Int} : RepL K w (ys.map D.int) (ys.map V.int) := by
  induction ys with
  | nil => exact wl0
  | cons y ys ih => exact wl1 wi ih
theorem sc_rep {d : D} {v u : V} (e : scD d = some v) (r : RepV K w d u) : u = v := by
  cases d with
  | non => cases e; exact rn r
  | bl b => cases e; exact rb r
  | int b => cases e; exact ri r
  | str b => cases e; exact rs r
  | _ => cases e
theorem sc_flat {d : D} {v : V} (e : scD d = some v) : flatV v = true := by
  cases d <;> cases e <;> rfl
theorem sc_reps : ∀ {ds : List D} {vs us : List V}, ds.mapM scD = some vs → RepL K w ds us → us = vs ∧ vs.all flatV = true
  | [], vs, us, e, r => by
    simp only [List.mapM_nil, Option.pure_def, Option.some.injEq] at e
    rw [rl0 r, ← e]
    exact ⟨rfl, rfl⟩
  | d :: ds, vs, us, e, r => by
    obtain ⟨v, ws, rfl, r0, t⟩ := rl1 r
    rw [List.mapM_cons] at e
    cases h1 : scD d with
    | none => rw [h1] at e; cases e
    | some x =>
      rw [h1] at e
      cases h2 : ds.mapM scD with
      | none => rw [h2] at e; cases e
      | some xs =>
        rw [h2] at e
        cases e
        obtain ⟨e1, e2⟩ := sc_reps h2 t
        rw [e1, sc_rep h1 r0]
        refine ⟨rfl, ?_⟩
        rw [List.all_cons, sc_flat h1, e2]
        rfl
theorem lst_z {a : Nat} {ds : List D} {v : V} (ok : w.Ok K) (e : lstAt w.h a = some ds) (r : RepV K w (.ref a) v) : ∃ vs, v = .ref (w.ρ a) ∧ a < w.h.length ∧ w.H (w.ρ a) = some (.lst vs) ∧ RepL K w ds vs := by
  unfold lstAt at e
  split at e
  · rename_i xs ex
    cases e
    obtain ⟨hl, ev⟩ := rr r
    obtain ⟨vs, eh, rl⟩ := ok.obj a _ ex
    exact ⟨vs, ev, hl, eh, rl⟩
  · cases e
/-- a sequence is read -/
theorem seq_z {d : D} {ds : List D} {v : V} (ok : w.Ok K) (e : seqOf w.h d = some ds) (r : RepV K w d v) : ∃ p b vs, v = .ref p ∧ (match b with | true => SqL K w.H p vs | false => SqT K w.H p vs) ∧ RepL K w ds vs ∧ (b = false ↔ ∃ ds, d = .tup ds) := by
  cases d with
  | tup xs =>
    cases e
    obtain ⟨p, vs, e, s, r⟩ := rt r
    exact ⟨p, false, vs, e, s, r, ⟨fun _ => ⟨_, rfl⟩, fun _ => rfl⟩⟩
  | scr xs =>
    cases e
    obtain ⟨p, vs, e, s, r⟩ := rc r
    exact ⟨p, true, vs, e, s.sq, r, ⟨fun z => (nomatch z), fun ⟨_, z⟩ => (nomatch z)⟩⟩
  | ref a =>
    obtain ⟨vs, ev, hl, eh, rl⟩ := lst_z ok e r
    exact ⟨_, true, vs, ev, SqL.of eh, rl, ⟨fun z => (nomatch z), fun ⟨_, z⟩ => (nomatch z)⟩⟩
  | _ => cases e
/-- a new list -/
theorem new_lst (ok : w.Ok K) {ds : List D} {vs : List V} (r : RepL K w ds vs) {Q : VK} {d : D} {h' : Mh} (e : newO (.lst ds) w.h = some (d, h')) (p : PV K w Q d h') : ZNew w.H (.lst vs) fun q H' => Q (.ref q) H' := by
  cases e
  refine ⟨fun q n => ?_⟩
  obtain ⟨le, ag, k⟩ := new_keep (mo := .lst ds) (o := .lst vs) ok n
  exact p _ _ _ (nx_new (mo := .lst ds) (o := .lst vs) ok n ⟨vs, upd_same, RepL.keep le ag k ds vs r⟩) new_ref
/-- a list is changed -/
theorem set_lst (ok : w.Ok K) {a : Nat} {ds : List D} {vs : List V} (h : a < w.h.length) (r : RepL K w ds vs) : Nx K w (w.set a (.lst ds) (.lst vs)) := by
  obtain ⟨le, ag, k⟩ := set_keep (mo := .lst ds) (o := .lst vs) ok h
  exact nx_set ok h ⟨vs, upd_same, RepL.keep le ag k ds vs r⟩
theorem new_tup (ok : w.Ok K) {ds : List D} {vs : List V} (r : RepL K w ds vs) {Q : VK} (p : PV K w Q (.tup ds) w.h) : ZNew w.H (.tup vs) fun q H' => Q (.ref q) H' := by
  refine ⟨fun q n => ?_⟩
  have x := nx_fz (o := .tup vs) ok n
  refine p _ _ _ x ?_
  unfold RepV
  exact ⟨q, vs, rfl, SqT.of upd_same, x.l ok r⟩
/-! operators -/
theorem sim_i20 {g : Int → Int → D} {g' : Int → Int → V} (hg : ∀ w i j, RepV K w (g i j) (g' i j)) : Sim2 K (zInt g') (i20 g) := by
  intro w x y vx vy Q d h' ok rx ry e p
  unfold i20 at e
  split at e
  · cases e
    cases ri rx
    cases ri ry
    exact p _ _ _ (Nx.refl ok) (hg _ _ _)
  · cases e
theorem sim_i2 {C : Int → Int → Prop} [∀ i j, Decidable (C i j)] {g : Int → Int → D} {g' : Int → Int → V} (hg : ∀ w i j, RepV K w (g i j) (g' i j)) : Sim2 K (zIntC C g') (i2 (fun i j => decide (C i j)) g) := by
  intro w x y vx vy Q d h' ok rx ry e p
  unfold i2 at e
  split at e
  · split at e
    · rename_i c
      cases e
      cases ri rx
      cases ri ry
      exact ⟨of_decide_eq_true c, p _ _ _ (Nx.refl ok) (hg _ _ _)⟩
    · cases e
  · cases e
theorem s_sub : Sim2 K zSub oSub := sim_i20 fun _ _ _ => wi
theorem s_mul : Sim2 K zMul oMul := sim_i2 fun _ _ _ => wi
theorem s_fdv : Sim2 K zFdv oFdv := sim_i2 fun _ _ _ => wi
theorem s_mod : Sim2 K zMod oMod := sim_i2 fun _ _ _ => wi
theorem s_pow : Sim2 K zPow oPow := sim_i2 fun _ _ _ => wi
theorem s_lt : Sim2 K zLt oLt := sim_i20 fun _ _ _ => wb
theorem s_le : Sim2 K zLe oLe := sim_i20 fun _ _ _ => wb
theorem s_gt : Sim2 K zGt oGt := sim_i20 fun _ _ _ => wb
theorem s_ge : Sim2 K zGe oGe := sim_i20 fun _ _ _ => wb
theorem ref_lst {a : Nat} {ds : List D} {v : V} (ok : w.Ok K) (e : w.h[a]? = some (.lst ds)) (r : RepV K w (.ref a) v) : ∃ vs, v = .ref (w.ρ a) ∧ w.H (w.ρ a) = some (.lst vs) ∧ RepL K w ds vs := by
  obtain ⟨hl, ev⟩ := rr r
  obtain ⟨vs, eh, rl⟩ := ok.obj a _ e
  exact ⟨vs, ev, eh, rl⟩
theorem s_add : Sim2 K zAdd oAdd := by
  intro w x y vx vy Q d h' ok rx ry e p
  unfold oAdd at e
  split at e
  · cases e
    cases ri rx
    cases ri ry
    exact p _ _ _ (Nx.refl ok) wi
  · split at e
    · rename_i c
      cases e
      cases rs rx
      cases rs ry
      exact ⟨c, p _ _ _ (Nx.refl ok) ws⟩
    · cases e
  · split at e
    · rename_i xs ys ea eb
      split at e
      · rename_i c
        obtain ⟨vs, e1, e2, r1⟩ := ref_lst ok ea rx
        obtain ⟨us, e3, e4, r2⟩ := ref_lst ok eb ry
        subst e1 e3
        refine ⟨⟨_, e2, ⟨_, e4, ?_⟩⟩⟩
        refine ⟨by rw [r1.len, r2.len]; exact c, ?_⟩
        exact new_lst ok (r1.app r2) e p
      · cases e
    · cases e
  · cases e
theorem eq_sc {x y : D} {b : Bool} (e : eqD x y = some b) : ∃ v u, scD x = some v ∧ scD y = some u ∧ scal v u = true ∧ decide (v = u) = b := by
  cases x <;> cases y <;> first | (cases e; done) | exact ⟨_, _, rfl, rfl, rfl, by rw [← Option.some.inj e]; simp⟩
theorem s_eq : Sim2 K rEq oEq := by
  intro w x y vx vy Q d h' ok rx ry e p
  obtain ⟨b, eb, e2⟩ := Option.map_eq_some_iff.mp e
  cases e2
  obtain ⟨v, u, e1, e2, e3, e4⟩ := eq_sc eb
  rw [sc_rep e1 rx, sc_rep e2 ry]
  refine ⟨e3, ?_⟩
  rw [e4]
  exact p _ _ _ (Nx.refl ok) wb
theorem s_ne : Sim2 K (fun x y H Q => scal x y = true ∧ Q (.bl (!decide (x = y))) H) oNe := by
  intro w x y vx vy Q d h' ok rx ry e p
  obtain ⟨b, eb, e2⟩ := Option.map_eq_some_iff.mp e
  cases e2
  obtain ⟨v, u, e1, e2, e3, e4⟩ := eq_sc eb
  rw [sc_rep e1 rx, sc_rep e2 ry]
  refine ⟨e3, ?_⟩
  rw [e4]
  exact p _ _ _ (Nx.refl ok) wb
theorem non_rep {x : D} {v : V} (r : RepV K w x v) : (v = .non ↔ isNon x = true) := by
  cases x with
  | non => rw [rn r]; exact ⟨fun _ => rfl, fun _ => rfl⟩
  | bl b => rw [rb r]; exact ⟨fun z => (nomatch z), fun z => (nomatch z)⟩
  | int b => rw [ri r]; exact ⟨fun z => (nomatch z), fun z => (nomatch z)⟩
  | str b => rw [rs r]; exact ⟨fun z => (nomatch z), fun z => (nomatch z)⟩
  | ref b => rw [(rr r).2]; exact ⟨fun z => (nomatch z), fun z => (nomatch z)⟩
  | tup b => obtain ⟨_, _, e, _⟩ := rt r; rw [e]; exact ⟨fun z => (nomatch z), fun z => (nomatch z)⟩
  | scr b => obtain ⟨_, _, e, _⟩ := rc r; rw [e]; exact ⟨fun z => (nomatch z), fun z => (nomatch z)⟩
  | kin _ _ _ => obtain ⟨_, _, e, _⟩ := rk r; rw [e]; exact ⟨fun z => (nomatch z), fun z => (nomatch z)⟩
theorem s_isN : Sim2 K zIsN oIsN := by
  intro w x y vx vy Q d h' ok rx ry e p
  unfold oIsN at e
  split at e
  · cases e
    cases rn ry
    have q := non_rep rx
    have p' := p _ (.bl (M.isNon x)) _ (Nx.refl ok) wb
    cases vx with
    | non => rw [q.mp rfl] at p'; exact p'
    | _ =>
      cases hx : M.isNon x with
      | true => cases q.mpr hx
      | false => rw [hx] at p'; exact p'
  · cases e
theorem s_isNN : Sim2 K zIsNN oIsNN := by
  intro w x y vx vy Q d h' ok rx ry e p
  unfold oIsNN at e
  split at e
  · cases e
    cases rn ry
    have q := non_rep rx
    have p' := p _ (.bl (!M.isNon x)) _ (Nx.refl ok) wb
    cases vx with
    | non => rw [q.mp rfl] at p'; exact p'
    | _ =>
      cases hx : M.isNon x with
      | true => cases q.mpr hx
      | false => rw [hx] at p'; exact p'
  · cases e
theorem one_str {a : Str} {c : Nat} (h : a.cps.toList = [c]) : a = ⟨#[c]⟩ := by
  obtain ⟨⟨l⟩⟩ := a
  have h' : l = [c] := h
  rw [h']
theorem in_z {neg : Bool} {x y : D} {vx vy : V} {Q : VK} {b : Bool} (ok : w.Ok K) (rx : RepV K w x vx) (ry : RepV K w y vy) (e : inD w.h x y = some b) (p : PV K w Q (.bl (match neg with | true => !b | false => b)) w.h) : zIn K neg vx vy w.H Q := by
  unfold inD at e
  have q := p _ _ _ (Nx.refl ok) wb
  split at e
  · cases rs ry
    split at e
    · cases rs rx
      split at e
      · rename_i a c ec
        cases e
        refine ⟨⟨c, ?_, ?_⟩⟩
        · exact one_str ec
        · cases neg <;> exact q
      · cases e
    · cases e
  · split at e
    · rename_i v vs e1 e2
      cases e
      obtain ⟨ys, e3, e4⟩ := Option.bind_eq_some_iff.mp e2
      obtain ⟨pp, bb, us, ev, sq, rl, _⟩ := seq_z ok e3 ry
      obtain ⟨e5, e6⟩ := sc_reps e4 rl
      subst ev e5
      rw [sc_rep e1 rx]
      refine ⟨⟨bb, us, sq, ⟨sc_flat e1, e6⟩, ?_⟩⟩
      cases neg <;> exact q
    · cases e
theorem s_in : Sim2 K (zIn K false) oIn := by
  intro w x y vx vy Q d h' ok rx ry e p
  obtain ⟨b, eb, e2⟩ := Option.map_eq_some_iff.mp e
  cases e2
  exact in_z (neg := false) ok rx ry eb p
theorem s_notin : Sim2 K (zIn K true) oNotIn := by
  intro w x y vx vy Q d h' ok rx ry e p
  obtain ⟨b, eb, e2⟩ := Option.map_eq_some_iff.mp e
  cases e2
  exact in_z (neg := true) ok rx ry eb p
theorem s_neg : Sim1 K zNeg oNeg := by
  intro w x vx Q d h' ok rx e p
  unfold oNeg at e
  split at e
  · cases e
    cases ri rx
    exact p _ _ _ (Nx.refl ok) wi
  · cases e
theorem atI_at {ds : List D} {vs : List V} {i : Int} {d : D} (r : RepL K w ds vs) (e : atI ds i = some d) : ∃ v, atI vs i = some v ∧ RepV K w d v := by
  unfold atI at e ⊢
  rw [r.len]
  obtain ⟨j, ej, e⟩ := Option.bind_eq_some_iff.mp e
  obtain ⟨v, ev, rv⟩ := r.at e
  exact ⟨v, by rw [ej]; exact ev, rv⟩
theorem s_ix : Sim2 K (zIx K) oIx := by
  intro w x y vx vy Q d h' ok rx ry e p
  unfold oIx at e
  split at e
  · cases ri ry
    split at e
    · cases rs rx
      split at e
      · rename_i c
        obtain ⟨c2, ec, e2⟩ := Option.map_eq_some_iff.mp e
        cases e2
        exact ⟨c, ⟨c2, ec, p _ _ _ (Nx.refl ok) ws⟩⟩
      · cases e
    · obtain ⟨xs, e1, e2⟩ := Option.bind_eq_some_iff.mp e
      obtain ⟨d2, e3, e4⟩ := Option.map_eq_some_iff.mp e2
      cases e4
      obtain ⟨pp, bb, us, ev, sq, rl, _⟩ := seq_z ok e1 rx
      subst ev
      obtain ⟨v, ev, rv⟩ := atI_at rl e3
      exact ⟨⟨bb, us, sq, ⟨v, ev, p _ _ _ (Nx.refl ok) rv⟩⟩⟩
  · cases e
theorem RepL.cut {ds : List D} {vs : List V} {lo hi : Option Int} (r : RepL K w ds vs) : RepL K w (cutD ds lo hi) (cutV vs lo hi) := by
  unfold cutD cutV
  rw [r.len]
  exact (r.drop _).take _
theorem s_sl : SimSl K (zSlc K) (fun x lo hi h => match x with
  | .tup xs => if HT.sIx xs.length 0 lo = 0 ∧ HT.sIx xs.length xs.length hi = xs.length then none else some (.tup (cutD xs lo hi), h)
  | x => oSl x lo hi h) := by
  intro w x vx lo hi Q d h' ok rx e p
  dsimp only at e
  split at e
  · rename_i xs
    split at e
    · cases e
    · rename_i c
      cases e
      obtain ⟨pp, vs, ev, sq, rl⟩ := rt rx
      subst ev
      refine ⟨⟨false, vs, sq, ?_⟩⟩
      refine ⟨by rw [rl.len]; exact c, ?_⟩
      exact new_tup ok rl.cut p
  · unfold oSl at e
    split at e
    · split at e
      · rename_i c
        cases e
        cases rs rx
        exact ⟨c, p _ _ _ (Nx.refl ok) ws⟩
      · cases e
    · split at e
      · rename_i xs ex
        obtain ⟨vs, e1, e2, r1⟩ := ref_lst ok ex rx
        subst e1
        exact ⟨⟨true, vs, SqL.of e2, new_lst ok r1.cut e p⟩⟩
      · cases e
    · first | contradiction | (exfalso; simp_all; done) | cases e
    · cases e
theorem s_len : SimL K (zLen K) oLen := by
  intro w x vx Q d h' ok rx e p
  unfold oLen at e
  split at e
  · split at e
    · rename_i c
      cases e
      obtain ⟨v, vs, rfl, r1, r2⟩ := rl1 rx
      cases rl0 r2
      cases rs r1
      exact ⟨c, p _ _ _ (Nx.refl ok) wi⟩
    · cases e
  · obtain ⟨xs, e1, e2⟩ := Option.map_eq_some_iff.mp e
    cases e2
    obtain ⟨v, vs, rfl, r1, r2⟩ := rl1 rx
    cases rl0 r2
    obtain ⟨pp, bb, us, ev, sq, rl, _⟩ := seq_z ok e1 r1
    subst ev
    refine ⟨⟨bb, us, sq, ?_⟩⟩
    rw [rl.len]
    exact p _ _ _ (Nx.refl ok) wi
  · cases e
theorem s_int : SimL K zIntF oInt := by
  intro w x vx Q d h' ok rx e p
  unfold oInt at e
  split at e
  · cases e
    obtain ⟨v, vs, rfl, r1, r2⟩ := rl1 rx
    cases rl0 r2
    cases ri r1
    exact p _ _ _ (Nx.refl ok) wi
  · split at e
    · rename_i c
      obtain ⟨n, en, e2⟩ := Option.map_eq_some_iff.mp e
      cases e2
      obtain ⟨v, vs, rfl, r1, r2⟩ := rl1 rx
      cases rl0 r2
      cases rs r1
      exact ⟨⟨n, ⟨en, c⟩, p _ _ _ (Nx.refl ok) wi⟩⟩
    · cases e
  · cases e
theorem s_str : SimL K zStrF oStr := by
  intro w x vx Q d h' ok rx e p
  unfold oStr at e
  split at e
  · split at e
    · rename_i c
      cases e
      obtain ⟨v, vs, rfl, r1, r2⟩ := rl1 rx
      cases rl0 r2
      cases ri r1
      exact ⟨c, p _ _ _ (Nx.refl ok) ws⟩
    · cases e
  · cases e
theorem s_list : SimL K (zListF K) oList := by
  intro w x vx Q d h' ok rx e p
  unfold oList at e
  split at e
  · obtain ⟨xs, e1, e2⟩ := Option.bind_eq_some_iff.mp e
    obtain ⟨v, vs, rfl, r1, r2⟩ := rl1 rx
    cases rl0 r2
    obtain ⟨pp, bb, us, ev, sq, rl, _⟩ := seq_z ok e1 r1
    subst ev
    exact ⟨⟨bb, us, sq, new_lst ok rl e2 p⟩⟩
  · cases e
theorem s_min : SimL K zMin2 oMin := by
  intro w x vx Q d h' ok rx e p
  unfold oMin at e
  split at e
  · cases e
    obtain ⟨v, vs, rfl, r1, r2⟩ := rl1 rx
    obtain ⟨v2, vs2, rfl, r3, r4⟩ := rl1 r2
    cases rl0 r4
    cases ri r1
    cases ri r3
    exact p _ _ _ (Nx.refl ok) wi
  · cases e
theorem s_max : SimL K zMax2 oMax := by
  intro w x vx Q d h' ok rx e p
  unfold oMax at e
  split at e
  · cases e
    obtain ⟨v, vs, rfl, r1, r2⟩ := rl1 rx
    obtain ⟨v2, vs2, rfl, r3, r4⟩ := rl1 r2
    cases rl0 r4
    cases ri r1
    cases ri r3
    exact p _ _ _ (Nx.refl ok) wi
  · cases e
theorem s_abs : SimL K zAbs oAbs := by
  intro w x vx Q d h' ok rx e p
  unfold oAbs at e
  split at e
  · cases e
    obtain ⟨v, vs, rfl, r1, r2⟩ := rl1 rx
    cases rl0 r2
    cases ri r1
    exact p _ _ _ (Nx.refl ok) wi
  · cases e
/-! methods -/
theorem s_append : SimM K zAppend oAppend := by
  intro w x y vx vy Q d h' ok rx ry e p
  unfold oAppend at e
  split at e
  · obtain ⟨xs, e1, e2⟩ := Option.bind_eq_some_iff.mp e
    split at e2
    · rename_i c
      cases e2
      obtain ⟨v, vs, rfl, r1, r2⟩ := rl1 ry
      cases rl0 r2
      obtain ⟨us, ev, hl, eh, rl⟩ := lst_z ok e1 rx
      subst ev
      refine ⟨⟨_, eh, ?_⟩⟩
      refine ⟨by rw [rl.len]; exact c, ⟨?_⟩⟩
      exact p _ _ _ (set_lst ok hl (rl.app (wl1 r1 wl0))) wn
    · cases e2
  · cases e
theorem RepL.last {ds : List D} {vs : List V} (r : RepL K w ds vs) : RepL K w ds.dropLast vs.dropLast := by
  rw [List.dropLast_eq_take, List.dropLast_eq_take, r.len]
  exact r.take _
theorem s_pop : SimM K zPop oPop := by
  intro w x y vx vy Q d h' ok rx ry e p
  unfold oPop at e
  split at e
  · obtain ⟨xs, e1, e2⟩ := Option.bind_eq_some_iff.mp e
    obtain ⟨d2, e3, e4⟩ := Option.map_eq_some_iff.mp e2
    cases e4
    cases rl0 ry
    obtain ⟨us, ev, hl, eh, rl⟩ := lst_z ok e1 rx
    subst ev
    obtain ⟨v, ev, rv⟩ := rl.at e3
    refine ⟨⟨_, eh, ⟨v, by rw [rl.len]; exact ev, ⟨?_⟩⟩⟩⟩
    have n := set_lst ok hl rl.last
    exact p _ _ _ n (n.v ok rv)
  · cases e
theorem s_reverse : SimM K zReverse oReverse := by
  intro w x y vx vy Q d h' ok rx ry e p
  unfold oReverse at e
  split at e
  · obtain ⟨xs, e1, e2⟩ := Option.map_eq_some_iff.mp e
    cases e2
    cases rl0 ry
    obtain ⟨us, ev, hl, eh, rl⟩ := lst_z ok e1 rx
    subst ev
    exact ⟨⟨_, eh, ⟨p _ _ _ (set_lst ok hl rl.rev) wn⟩⟩⟩
  · cases e
theorem s_S2 {g : Str → Str → D} {g' : Str → Str → V} (hg : ∀ w i j, RepV K w (g i j) (g' i j)) : SimM K (zStrM g') (oS2 g) := by
  intro w x y vx vy Q d h' ok rx ry e p
  unfold oS2 at e
  split at e
  · cases e
    obtain ⟨v, vs, rfl, r1, r2⟩ := rl1 ry
    cases rl0 r2
    cases rs rx
    cases rs r1
    exact p _ _ _ (Nx.refl ok) (hg _ _ _)
  · cases e
theorem s_find : SimM K (zStrM fun a b => .int (Txt.find a b)) oFind := s_S2 fun _ _ _ => wi
theorem s_ends : SimM K (zStrM fun a b => .bl (Txt.endswith a b)) oEnds := s_S2 fun _ _ _ => wb
theorem s_starts : SimM K (zStrM fun a b => .bl (Txt.startswith a b)) oStarts := s_S2 fun _ _ _ => wb
theorem s_split : SimM K zSplit oSplit := by
  intro w x y vx vy Q d h' ok rx ry e p
  unfold oSplit at e
  split at e
  · split at e
    · rename_i c
      obtain ⟨v, vs, rfl, r1, r2⟩ := rl1 ry
      cases rl0 r2
      cases rs rx
      cases rs r1
      exact ⟨c, new_lst ok RepL.strs e p⟩
    · cases e
  · cases e
theorem strs_rep : ∀ {ds : List D} {ys : List Str} {vs : List V}, ds.mapM strD = some ys → RepL K w ds vs → vs = ys.map V.str
  | [], ys, vs, e, r => by
    simp only [List.mapM_nil, Option.pure_def, Option.some.injEq] at e
    rw [rl0 r, ← e]
    rfl
  | d :: ds, ys, us, e, r => by
    obtain ⟨v, ws, rfl, r0, t⟩ := rl1 r
    rw [List.mapM_cons] at e
    cases h1 : strD d with
    | none => rw [h1] at e; cases e
    | some x =>
      rw [h1] at e
      cases h2 : ds.mapM strD with
      | none => rw [h2] at e; cases e
      | some xs =>
        rw [h2] at e
        cases e
        rw [strs_rep h2 t]
        cases d <;> cases h1
        rw [rs r0]
        rfl
theorem s_tindex : SimM K (zTIndex K) oTIndex := by
  intro w x y vx vy Q d h' ok rx ry e p
  unfold oTIndex at e
  split at e
  · split at e
    · rename_i z ys ey
      split at e
      · rename_i j ej
        cases e
        obtain ⟨v, vs, rfl, r1, r2⟩ := rl1 ry
        cases rl0 r2
        cases rs r1
        obtain ⟨pp, us, ev, sq, rl⟩ := rt rx
        subst ev
        rw [strs_rep ey rl] at sq
        rw [List.findIdx?_eq_some_iff_getElem] at ej
        obtain ⟨hj, e1, e2⟩ := ej
        refine ⟨⟨ys, j, sq, ?_, fun m hm => ?_, p _ _ _ (Nx.refl ok) wi⟩⟩
        · rw [List.getElem?_eq_getElem hj, of_decide_eq_true e1]
        · have hm2 : m < ys.length := Nat.lt_trans hm hj
          rw [List.getElem?_eq_getElem hm2]
          intro e3
          have e4 := e2 m hm
          rw [Option.some.inj e3] at e4
          simp at e4
      · cases e
    · cases e
  · cases e
end
/-! displays -/
section
variable {K : PySem.W.Frag} {Φ : Ph K} {W : WX} {ta tb tc te : TE} {a b c : EM} {t : TA} {m : AM}
theorem sim_lst (ha : SimA K Φ W t m) : SimE K Φ W (zLst t) (mApp mkLst m) := by
  intro w σ env Q ok φ sl s
  refine ha.go ok φ sl s fun w1 d v n1 ok1 φ1 sl1 r1 s1 => ?_
  obtain ⟨x, h', e, p⟩ := ofP_sat s1
  unfold mkLst at e
  split at e
  · rename_i c
    exact ⟨by rw [r1.len]; exact c, new_lst ok1 r1 e (PV.tr n1 _ _ p)⟩
  · cases e
theorem sim_tup (ha : SimA K Φ W t m) : SimE K Φ W (zTup t) (mApp mkTup m) := by
  intro w σ env Q ok φ sl s
  refine ha.go ok φ sl s fun w1 d v n1 ok1 φ1 sl1 r1 s1 => ?_
  obtain ⟨x, h', e, p⟩ := ofP_sat s1
  unfold mkTup at e
  split at e
  · rename_i c
    cases e
    exact ⟨by rw [r1.len]; exact c, new_tup ok1 r1 (PV.tr n1 _ _ p)⟩
  · cases e
end
end M

/-! M3: statements, loops, errors, calls -/
namespace M
open PySem PySem.Spec PyProof.Rows L2 Z
inductive So where
  | nx (e : Mv) | rt (d : D) | bk (e : Mv) | ct (e : Mv)
abbrev SM := Mv → Mh → Rs So
abbrev GM := D → Mv → Mh → Rs Mv
abbrev FM := List D → Mh → Rs D
/-- what is walked: fixed items, or the list at a as it stands -/
structure Im where
  at? : Option Nat
  ds : List D
abbrev IM := Mv → Mh → Rs Im
def Rs.at {α : Type} (r : Rs α) (env : Mv) : Rs α := match r with
  | .er x _ h => .er x env h
  | r => r
theorem Rs.sat_at {α : Type} {r : Rs α} {env : Mv} {P : α → Mh → Prop} {E : Er → Mv → Mh → Prop} : (r.at env).sat P E ↔ r.sat P fun x _ h => E x env h := by
  cases r <;> exact Iff.rfl
/-! ### data -/
def gName (i : Nat) (v : D) (env : Mv) (h : Mh) : Rs Mv := .ok (env.set i (some v)) h
def kSubC (env : Mv) (h3 : Mh) (_ : Mh) : Rs Mv := .ok env h3
def kSubB (f : D → D → D → Mh → Option Mh) (v : D) (env : Mv) (o i : D) (h : Mh) : Rs Mv := (Rs.ofO (f o i v h) h).bind (kSubC env)
def kSubA (f : D → D → D → Mh → Option Mh) (i : EM) (v : D) (env : Mv) (o : D) (h : Mh) : Rs Mv := ((i env h).at env).bind (kSubB f v env o)
def gSubF (f : D → D → D → Mh → Option Mh) (o i : EM) (v : D) (env : Mv) (h : Mh) : Rs Mv := ((o env h).at env).bind (kSubA f i v env)
def kNx (e : Mv) (h : Mh) : Rs So := .ok (.nx e) h
def kAsg (g : GM) (env : Mv) (x : D) (h : Mh) : Rs So := (g x env h).bind kNx
def sAsg (a : EM) (g : GM) (env : Mv) (h : Mh) : Rs So := ((a env h).at env).bind (kAsg g env)
def kAugC (i : Nat) (env : Mv) (z : D) (h : Mh) : Rs So := .ok (.nx (env.set i (some z))) h
def kAugB (i : Nat) (f : O2) (env : Mv) (x y : D) (h : Mh) : Rs So := (Rs.ofP (f x y h)).bind (kAugC i env)
def kAugA (i : Nat) (f : O2) (a : EM) (env : Mv) (x : D) (h : Mh) : Rs So := ((a env h).at env).bind (kAugB i f env x)
def sAug (i : Nat) (f : O2) (a : EM) (env : Mv) (h : Mh) : Rs So := match env[i]? with
  | some (some x) => kAugA i f a env x h
  | _ => .no
def kIf (t u : SM) (env : Mv) (b : Bool) (h : Mh) : Rs So := if b = true then t env h else u env h
def sIf (c : BM) (t u : SM) (env : Mv) (h : Mh) : Rs So := ((c env h).at env).bind (kIf t u env)
def sNext (env : Mv) (h : Mh) : Rs So := .ok (.nx env) h
def sBreak (env : Mv) (h : Mh) : Rs So := .ok (.bk env) h
def sCont (env : Mv) (h : Mh) : Rs So := .ok (.ct env) h
def kRet (x : D) (h : Mh) : Rs So := .ok (.rt x) h
def sRet (a : EM) (env : Mv) (h : Mh) : Rs So := ((a env h).at env).bind kRet
def sRetN (_ : Mv) (h : Mh) : Rs So := .ok (.rt .non) h
def kDrop (env : Mv) (_ : D) (h : Mh) : Rs So := .ok (.nx env) h
def sDrop (a : EM) (env : Mv) (h : Mh) : Rs So := ((a env h).at env).bind (kDrop env)
/-- behind a turn -/
def goOn (f : Mv → Mh → Rs So) : So → Mh → Rs So
  | .nx e, h => f e h
  | .ct e, h => f e h
  | .bk e, h => .ok (.nx e) h
  | .rt d, h => .ok (.rt d) h
def seqOn (f : Mv → Mh → Rs So) : So → Mh → Rs So
  | .nx e, h => f e h
  | .ct e, h => .ok (.ct e) h
  | .bk e, h => .ok (.bk e) h
  | .rt d, h => .ok (.rt d) h
def sSeq (t u : SM) (env : Mv) (h : Mh) : Rs So := (t env h).bind (seqOn u)
def kLoop (body : SM) (f : Mv → Mh → Rs So) (e : Mv) (h : Mh) : Rs So := (body e h).bind (goOn f)
open Classical in
noncomputable def mLoop (a : Option Nat) (all : List D) (g : GM) (body : SM) : List D → Mv → Mh → Rs So
  | [], env, h => if (∀ b, a = some b → lstAt h b = some all) then .ok (.nx env) h else .no
  | d :: ds, env, h => if (∀ b, a = some b → lstAt h b = some all) then (g d env h).bind (kLoop body (mLoop a all g body ds)) else .no
noncomputable def kFor (g : GM) (body : SM) (env : Mv) (it : Im) (h : Mh) : Rs So := mLoop it.at? it.ds g body it.ds env h
noncomputable def sFor (i : IM) (g : GM) (body : SM) (env : Mv) (h : Mh) : Rs So := ((i env h).at env).bind (kFor g body env)
def kWh (body : SM) (f : Mv → Mh → Rs So) (env : Mv) (b : Bool) (h : Mh) : Rs So := if b = true then (body env h).bind (goOn f) else .ok (.nx env) h
def whileN (c : BM) (body : SM) : Nat → Mv → Mh → Rs So
  | 0, _, _ => .no
  | n + 1, env, h => ((c env h).at env).bind (kWh body (whileN c body n) env)
open Classical in
noncomputable def sWhile (c : BM) (body : SM) (env : Mv) (h : Mh) : Rs So := if hh : ∃ n, whileN c body n env h ≠ .no then whileN c body (Classical.choose hh) env h else .no
/-- the fields of an error, from its arguments -/
def Src.dv (ds : List D) : Src → D
  | .par i => ds.getD i .non
  | .cst x => .str x
def mkF (l : List (String × Src)) (ds : List D) : List (String × D) := l.map fun p => (p.1, Src.dv ds p.2)
def mkVF (l : List (String × Src)) (vs : List V) : List (Str × V) := l.map fun p => (nm p.1, Src.val vs p.2)
def kRaise (c : String) (n : Nat) (l : List (String × Src)) (env : Mv) (ds : List D) (h : Mh) : Rs So := if ds.length = n ∧ n ≤ 100 then .er ⟨c, mkF l ds⟩ env h else .no
def sRaise (c : String) (n : Nat) (l : List (String × Src)) (a : AM) (env : Mv) (h : Mh) : Rs So := ((a env h).at env).bind (kRaise c n l env)
/-- a slot is emptied behind a suite -/
def So.cut (i : Nat) : So → So
  | .nx e => .nx (e.set i none)
  | .bk e => .bk (e.set i none)
  | .ct e => .ct (e.set i none)
  | .rt d => .rt d
def kCut (i : Nat) (o : So) (h : Mh) : Rs So := .ok (o.cut i) h
def Rs.ne {α : Type} (r : Rs α) : Rs α := match r with
  | .er _ _ _ => .no
  | r => r
theorem Rs.sat_ne {α : Type} {r : Rs α} {P : α → Mh → Prop} {E : Er → Mv → Mh → Prop} (s : r.ne.sat P E) : r.sat P fun _ _ _ => False := by
  cases r with
  | ok a h => exact s
  | er x e h => exact s
  | no => exact s
/-- an error flies into a clause -/
def tryEr (sub : String → Option Bool) (i : Nat) (suite : Er → SM) (x : Er) (e : Mv) (h : Mh) : Rs So := match sub x.c with
  | some true => if i < e.length then ((suite x (e.set i none) h).ne).bind (kCut i) else .no
  | some false => .er x e h
  | none => .no
def tryOn (sub : String → Option Bool) (i : Nat) (suite : Er → SM) (r : Rs So) : Rs So := match r with
  | .er x e h => tryEr sub i suite x e h
  | r => r
def sTry (sub : String → Option Bool) (i : Nat) (body : SM) (suite : Er → SM) (env : Mv) (h : Mh) : Rs So := tryOn sub i suite (body env h)
def mIsE (x : Er) (sub : String → Option Bool) (_ : Mv) (h : Mh) : Rs D := .ofO ((sub x.c).map D.bl) h
def kCall (f : FM) (env : Mv) (ds : List D) (h : Mh) : Rs D := (f ds h).at env
def mCall (f : FM) (a : AM) (env : Mv) (h : Mh) : Rs D := (a env h).bind (kCall f env)
def kFin : So → Mh → Rs D
  | .nx _, h => .ok .non h
  | .rt d, h => .ok d h
  | _, _ => .no
def mFun (n np : Nat) (body : SM) (ds : List D) (h : Mh) : Rs D := if ds.length = np then (((body (ds.map some ++ List.replicate (n - ds.length) none) h).bind kFin).at []) else .no
def kSeqI (x : D) (h : Mh) : Rs Im := match x with
  | .str z => .ok ⟨none, z.cps.toList.map fun c => .str ⟨#[c]⟩⟩ h
  | .ref a => .ofO ((lstAt h a).map fun ds => ⟨some a, ds⟩) h
  | x => .ofO ((seqOf h x).map fun ds => ⟨none, ds⟩) h
def iSeq (a : EM) (env : Mv) (h : Mh) : Rs Im := (a env h).bind kSeqI
def kRng1 (xs : List D) (h : Mh) : Rs Im := match xs with
  | [.int j] => if -4611686018427387904 ≤ j ∧ j < 4611686018427387904 then .ok ⟨none, (List.range j.toNat).map fun k => .int (k : Nat)⟩ h else .no
  | _ => .no
def iRng1 (a : AM) (env : Mv) (h : Mh) : Rs Im := (a env h).bind kRng1
/-! ### what the readings follow -/
section
variable (K : PySem.W.Frag) (Φ : Ph K) (W : WX)
def EndS (w : Wd) (D : Ends) : So → Mh → Prop
  | .nx e, h' => ∀ ρ' σ' H', Nx K w ⟨ρ', h', H'⟩ → Φ.p ⟨ρ', h', H'⟩ σ' → SlR K ⟨ρ', h', H'⟩ σ' e → D.nx σ' H'
  | .bk e, h' => ∀ ρ' σ' H', Nx K w ⟨ρ', h', H'⟩ → Φ.p ⟨ρ', h', H'⟩ σ' → SlR K ⟨ρ', h', H'⟩ σ' e → D.bk σ' H'
  | .ct e, h' => ∀ ρ' σ' H', Nx K w ⟨ρ', h', H'⟩ → Φ.p ⟨ρ', h', H'⟩ σ' → SlR K ⟨ρ', h', H'⟩ σ' e → D.ct σ' H'
  | .rt d, h' => ∀ ρ' v H', Nx K w ⟨ρ', h', H'⟩ → RepV K ⟨ρ', h', H'⟩ d v → D.rt v H'
abbrev XS (w : Wd) : Er → Mv → Mh → Prop := fun x e h' => ∀ ρ' σ' cls d H', Nx K w ⟨ρ', h', H'⟩ → Φ.p ⟨ρ', h', H'⟩ σ' → SlR K ⟨ρ', h', H'⟩ σ' e → ErrR K ⟨ρ', h', H'⟩ x cls d → W cls d σ' H'
def SimS (t : TS) (m : SM) : Prop := ∀ (w : Wd) σ env D, w.Ok K → Φ.p w σ → SlR K w σ env → (m env w.h).sat (EndS K Φ w D) (XS K Φ W w) → t D σ w.H
def SimG (g : TG) (m : GM) : Prop := ∀ (w : Wd) σ env d v Q, w.Ok K → Φ.p w σ → SlR K w σ env → RepV K w d v → (m d env w.h).sat (fun e h' => ∀ ρ' σ' H', Nx K w ⟨ρ', h', H'⟩ → Φ.p ⟨ρ', h', H'⟩ σ' → SlR K ⟨ρ', h', H'⟩ σ' e → Q σ' H') (XS K Φ W w) → g v σ w.H Q
/-- an iterator yields these items -/
def JSim (w : Wd) (J : It) (it : Im) : Prop := ∀ w', Nx K w w' → (∀ b, it.at? = some b → lstAt w'.h b = some it.ds) → ∀ i : Nat, (it.ds.length ≤ i → J.stop i w'.H) ∧
  ∀ d, it.ds[i]? = some d → J.go i w'.H ∧ ∀ x H', J.yld i w'.H x H' → ∃ ρ', Nx K w' ⟨ρ', w'.h, H'⟩ ∧ RepV K ⟨ρ', w'.h, H'⟩ d x
def SimI (wi : TI) (m : IM) : Prop := ∀ (w : Wd) σ env R, w.Ok K → Φ.p w σ → SlR K w σ env → (m env w.h).sat (fun it h' => ∀ ρ' J H', Nx K w ⟨ρ', h', H'⟩ → JSim K ⟨ρ', h', H'⟩ J it → R J H') (XE K W w σ) → wi σ w.H R
end
section
variable {K : PySem.W.Frag} {Φ : Ph K} {W : WX} {ta tb te : TE} {a b : EM} {t : TA} {m : AM} {tA : TT} {mA : BM} {ts tu : TS} {s u : SM} {g : TG} {gm : GM}
theorem EndS.tr {w w' : Wd} {D : Ends} (x : Nx K w w') : ∀ o h', EndS K Φ w D o h' → EndS K Φ w' D o h' := fun o h' p => by
  cases o with
  | nx e => exact fun ρ σ H y => p ρ σ H (x.trans y)
  | bk e => exact fun ρ σ H y => p ρ σ H (x.trans y)
  | ct e => exact fun ρ σ H y => p ρ σ H (x.trans y)
  | rt d => exact fun ρ v H y => p ρ v H (x.trans y)
theorem XS.tr {w w' : Wd} (x : Nx K w w') : ∀ e v h', XS K Φ W w e v h' → XS K Φ W w' e v h' := fun _ _ _ p ρ σ c d H y => p ρ σ c d H (x.trans y)
theorem XS.xe {w : Wd} {σ : St} {env : Mv} (ok : w.Ok K) (φ : Φ.p w σ) (sl : SlR K w σ env) : ∀ x e h', XS K Φ W w x env h' → XE K W w σ x e h' := fun x e h' p ρ c d H n er => p ρ σ c d H n (Φ.mono _ _ _ ok n φ) (sl.nx ok n) er
theorem SimE.to (ha : SimE K Φ W ta a) {w : Wd} {σ : St} {env : Mv} (ok : w.Ok K) (φ : Φ.p w σ) (sl : SlR K w σ env) {β : Type} {k : D → Mh → Rs β} {P : β → Mh → Prop} (s : (((a env w.h).at env).bind k).sat P (XS K Φ W w)) {Q : VK}
    (g : ∀ (w1 : Wd) d v, Nx K w w1 → w1.Ok K → Φ.p w1 σ → SlR K w1 σ env → RepV K w1 d v → (k d w1.h).sat P (XS K Φ W w1) → Q v w1.H) : ta σ w.H Q := by
  refine ha w σ env _ ok φ sl ((Rs.sat_at.mp (Rs.sat_bind.mp s)).mono (fun x h1 p ρ1 v1 H1 n1 r1 => ?_) fun x e h' p => XS.xe ok φ sl x e h' p)
  exact g ⟨ρ1, h1, H1⟩ x v1 n1 n1.ok (Φ.mono _ _ _ ok n1 φ) (sl.nx ok n1) r1 (p.mono (fun _ _ z => z) (XS.tr n1))
theorem SimA.to (ha : SimA K Φ W t m) {w : Wd} {σ : St} {env : Mv} (ok : w.Ok K) (φ : Φ.p w σ) (sl : SlR K w σ env) {β : Type} {k : List D → Mh → Rs β} {P : β → Mh → Prop} (s : (((m env w.h).at env).bind k).sat P (XS K Φ W w)) {Q : List V → Hp → Prop}
    (g : ∀ (w1 : Wd) d v, Nx K w w1 → w1.Ok K → Φ.p w1 σ → SlR K w1 σ env → RepL K w1 d v → (k d w1.h).sat P (XS K Φ W w1) → Q v w1.H) : t σ w.H Q := by
  refine ha w σ env _ ok φ sl ((Rs.sat_at.mp (Rs.sat_bind.mp s)).mono (fun x h1 p ρ1 v1 H1 n1 r1 => ?_) fun x e h' p => XS.xe ok φ sl x e h' p)
  exact g ⟨ρ1, h1, H1⟩ x v1 n1 n1.ok (Φ.mono _ _ _ ok n1 φ) (sl.nx ok n1) r1 (p.mono (fun _ _ z => z) (XS.tr n1))
theorem SimT.to (ha : SimT K Φ W tA mA) {w : Wd} {σ : St} {env : Mv} (ok : w.Ok K) (φ : Φ.p w σ) (sl : SlR K w σ env) {β : Type} {k : Bool → Mh → Rs β} {P : β → Mh → Prop} (s : (((mA env w.h).at env).bind k).sat P (XS K Φ W w)) {Q : Bool → Hp → Prop}
    (g : ∀ (w1 : Wd) d, Nx K w w1 → w1.Ok K → Φ.p w1 σ → SlR K w1 σ env → (k d w1.h).sat P (XS K Φ W w1) → Q d w1.H) : tA σ w.H Q := by
  refine ha w σ env _ ok φ sl ((Rs.sat_at.mp (Rs.sat_bind.mp s)).mono (fun x h1 p ρ1 H1 n1 => ?_) fun x e h' p => XS.xe ok φ sl x e h' p)
  exact g ⟨ρ1, h1, H1⟩ x n1 n1.ok (Φ.mono _ _ _ ok n1 φ) (sl.nx ok n1) (p.mono (fun _ _ z => z) (XS.tr n1))
theorem SlR.set {w : Wd} {σ : St} {env : Mv} (r : SlR K w σ env) {d : D} {v : V} (i : Nat) (rv : RepV K w d v) : SlR K w (σ.set i (some v)) (env.set i (some d)) := by
  refine ⟨by rw [List.length_set, List.length_set]; exact r.1, fun j e h => ?_⟩
  by_cases hj : i = j
  · subst hj
    have hl := (List.getElem?_eq_some_iff.mp h).1
    rw [List.length_set] at hl
    rw [List.getElem?_set_self hl] at h
    cases h
    exact ⟨v, List.getElem?_set_self (by rw [r.1]; exact hl), rv⟩
  · rw [List.getElem?_set_ne hj] at h
    rw [List.getElem?_set_ne hj]
    exact r.2 j e h
theorem SlR.cut {w : Wd} {σ : St} {env : Mv} (r : SlR K w σ env) (i : Nat) (o : Option V) : SlR K w (σ.set i o) (env.set i none) := by
  refine ⟨by rw [List.length_set, List.length_set]; exact r.1, fun j e h => ?_⟩
  by_cases hj : i = j
  · subst hj
    have hl := (List.getElem?_eq_some_iff.mp h).1
    rw [List.length_set] at hl
    rw [List.getElem?_set_self hl] at h
    cases h
  · rw [List.getElem?_set_ne hj] at h
    rw [List.getElem?_set_ne hj]
    exact r.2 j e h
theorem sg_name (i : Nat) (hi : Φ.ok i) : SimG K Φ W (zN i) (gName i) := by
  intro w σ env d v Q ok φ sl r s
  show zs σ i v fun σ' => Q σ' w.H
  rw [zs_eq]
  exact s _ _ _ (Nx.refl ok) (Φ.st _ _ _ _ hi φ) (sl.set i r)
/-- an item is stored -/
def SimSet (K : PySem.W.Frag) (r : TSet) (f : D → D → D → Mh → Option Mh) : Prop := ∀ (w : Wd) x y z vx vy vz Q h', w.Ok K → RepV K w x vx → RepV K w y vy → RepV K w z vz → f x y z w.h = some h' → (∀ ρ' H', Nx K w ⟨ρ', h', H'⟩ → Q H') → r vx vy vz w.H Q
theorem s_setL : SimSet K zSetL oSetIx := by
  intro w x y z vx vy vz Q h' ok rx ry rz e q
  unfold oSetIx at e
  split at e
  · obtain ⟨xs, e1, e2⟩ := Option.bind_eq_some_iff.mp e
    obtain ⟨j, e3, e4⟩ := Option.map_eq_some_iff.mp e2
    subst e4
    obtain ⟨us, ev, hl, eh, rl⟩ := lst_z ok e1 rx
    subst ev
    cases ri ry
    refine ⟨⟨_, eh, ⟨j, by rw [rl.len]; exact e3, ⟨?_⟩⟩⟩⟩
    exact q _ _ (set_lst ok hl (rl.set j rz))
  · cases e
theorem sg_sub {r : TSet} {f : D → D → D → Mh → Option Mh} (hr : SimSet K r f) (ho : SimE K Φ W ta a) (hi : SimE K Φ W tb b) : SimG K Φ W (gSub ta tb r) (gSubF f a b) := by
  intro w σ env d v Q ok φ sl rv s
  refine ho.to ok φ sl s fun w1 d1 v1 n1 ok1 φ1 sl1 r1 s1 => ?_
  refine hi.to ok1 φ1 sl1 s1 fun w2 d2 v2 n2 ok2 φ2 sl2 r2 s2 => ?_
  obtain ⟨h3, e, p⟩ := ofO_sat (Rs.sat_bind.mp s2)
  refine hr w2 d1 d2 d v1 v2 v _ h3 ok2 (n2.v ok1 r1) r2 ((n1.trans n2).v ok rv) e fun ρ' H' n3 => ?_
  exact p _ _ _ ((n1.trans n2).trans n3) (Φ.mono _ _ _ ok2 n3 φ2) (sl2.nx ok2 n3)
theorem ss_asg (ha : SimE K Φ W ta a) (hg : SimG K Φ W g gm) : SimS K Φ W (tAsg ta g) (sAsg a gm) := by
  intro w σ env D ok φ sl s
  refine ha.to ok φ sl s fun w1 d v n1 ok1 φ1 sl1 r1 s1 => ?_
  refine hg w1 σ env d v _ ok1 φ1 sl1 r1 ((Rs.sat_bind.mp s1).mono (fun e h' p => ?_) fun _ _ _ e => e)
  exact fun ρ σ' H n => p ρ σ' H (n1.trans n)
theorem ss_aug (i : Nat) {r : R2} {f : O2} (hr : Sim2 K r f) (ha : SimE K Φ W ta a) (hi : Φ.ok i) : SimS K Φ W (zAug i ta r) (sAug i f a) := by
  intro w σ env D ok φ sl s
  unfold sAug at s
  split at s
  · rename_i x ex
    obtain ⟨v, ev, rv⟩ := sl.2 i x ex
    refine zv_iff.mpr ⟨v, ev, ?_⟩
    refine ha.to ok φ sl s fun w1 d u n1 ok1 φ1 sl1 r1 s1 => ?_
    obtain ⟨z, h2, e, p⟩ := ofP_sat (Rs.sat_bind.mp s1)
    refine hr w1 x d v u _ z h2 ok1 (n1.v ok rv) r1 e fun ρ' v' H' n2 r2 => ?_
    rw [zs_eq]
    exact p _ _ _ (n1.trans n2) (Φ.st _ _ _ _ hi (Φ.mono _ _ _ ok1 n2 φ1)) ((sl1.nx ok1 n2).set i r2)
  · exact s.elim
theorem ss_if (hc : SimT K Φ W tA mA) (h1 : SimS K Φ W ts s) (h2 : SimS K Φ W tu u) : SimS K Φ W (zIfS tA ts tu) (sIf mA s u) := by
  intro w σ env D ok φ sl s
  refine hc.to ok φ sl s fun w1 d n1 ok1 φ1 sl1 s1 => ?_
  unfold kIf at s1
  refine ⟨fun c => ?_, fun c => ?_⟩
  · rw [if_pos c] at s1
    exact h1 w1 σ env D ok1 φ1 sl1 (s1.mono (EndS.tr n1) fun _ _ _ e => e)
  · rw [if_neg c] at s1
    exact h2 w1 σ env D ok1 φ1 sl1 (s1.mono (EndS.tr n1) fun _ _ _ e => e)
theorem ss_next : SimS K Φ W tNext sNext := fun w σ env D ok φ sl s => s _ _ _ (Nx.refl ok) φ sl
theorem ss_break : SimS K Φ W tBreak sBreak := fun w σ env D ok φ sl s => s _ _ _ (Nx.refl ok) φ sl
theorem ss_cont : SimS K Φ W tCont sCont := fun w σ env D ok φ sl s => s _ _ _ (Nx.refl ok) φ sl
theorem ss_ret (ha : SimE K Φ W ta a) : SimS K Φ W (tRet ta) (sRet a) := by
  intro w σ env D ok φ sl s
  refine ha.to ok φ sl s fun w1 d v n1 ok1 φ1 sl1 r1 s1 => ?_
  exact s1 _ _ _ n1 r1
theorem ss_retN : SimS K Φ W tRetN sRetN := fun w σ env D ok φ sl s => s _ _ _ (Nx.refl ok) wn
theorem ss_drop (ha : SimE K Φ W ta a) : SimS K Φ W (tDrop ta) (sDrop a) := by
  intro w σ env D ok φ sl s
  refine ha.to ok φ sl s fun w1 d v n1 ok1 φ1 sl1 r1 s1 => ?_
  exact s1 _ _ _ n1 φ1 sl1
theorem ss_seq (h1 : SimS K Φ W ts s) (h2 : SimS K Φ W tu u) : SimS K Φ W (tSeq ts tu) (sSeq s u) := by
  intro w σ env D ok φ sl s
  refine h1 w σ env _ ok φ sl ((Rs.sat_bind.mp s).mono (fun o h' p => ?_) fun _ _ _ e => e)
  cases o with
  | nx e => exact fun ρ σ' H n φ' sl' => h2 ⟨ρ, h', H⟩ σ' e D n.ok φ' sl' (Rs.sat.mono p (EndS.tr n) (XS.tr n))
  | rt d => exact p
  | bk e => exact p
  | ct e => exact p
/-! loops -/
theorem ss_loop {J : It} {it : Im} (hg : SimG K Φ W g gm) (hb : SimS K Φ W ts s) {w0 : Wd} (hJ : JSim K w0 J it) {σ : St} {env : Mv} {D : Ends} (ok : w0.Ok K) (φ : Φ.p w0 σ) (sl : SlR K w0 σ env)
    (st : (mLoop it.at? it.ds gm s it.ds env w0.h).sat (EndS K Φ w0 D) (XS K Φ W w0)) : ZLoop J g ts D σ w0.H := by
  refine ⟨fun i m σ H => ∃ (w : Wd) (env : Mv), w.H = H ∧ Nx K w0 w ∧ Φ.p w σ ∧ SlR K w σ env ∧ m = it.ds.length - i ∧ i ≤ it.ds.length ∧ (mLoop it.at? it.ds gm s (it.ds.drop i) env w.h).sat (EndS K Φ w D) (XS K Φ W w), ⟨_, w0, env, rfl, Nx.refl ok, φ, sl, rfl, Nat.zero_le _, st⟩, ?_⟩
  rintro i m σ H ⟨w, env, rfl, n, φ, sl, rfl, hi, st⟩
  by_cases hl : i < it.ds.length
  · right
    rw [List.drop_eq_getElem_cons hl] at st
    unfold mLoop at st
    split at st
    · rename_i hc
      obtain ⟨go, yl⟩ := (hJ w n hc i).2 _ (List.getElem?_eq_getElem hl)
      refine ⟨go, _, fun σ' H' z => ⟨it.ds.length - (i + 1), by omega, z⟩, fun x H' hy => ?_⟩
      obtain ⟨ρ1, n1, r1⟩ := yl x H' hy
      refine hg ⟨ρ1, w.h, H'⟩ σ env _ x _ n1.ok (Φ.mono _ _ _ n.ok n1 φ) (sl.nx n.ok n1) r1 ((Rs.sat_bind.mp st).mono (fun e h2 p => ?_) (XS.tr n1))
      intro ρ2 σ2 H2 n2 φ2 sl2
      refine hb ⟨ρ2, h2, H2⟩ σ2 e _ n2.ok φ2 sl2 ((Rs.sat_bind.mp p).mono (fun o h3 p3 => ?_) (XS.tr (n1.trans n2)))
      have nn := n1.trans n2
      cases o with
      | nx e => exact fun ρ3 σ3 H3 n3 φ3 sl3 => ⟨⟨ρ3, h3, H3⟩, e, rfl, (n.trans nn).trans n3, φ3, sl3, rfl, hl, p3.mono (EndS.tr (nn.trans n3)) (XS.tr (nn.trans n3))⟩
      | ct e => exact fun ρ3 σ3 H3 n3 φ3 sl3 => ⟨⟨ρ3, h3, H3⟩, e, rfl, (n.trans nn).trans n3, φ3, sl3, rfl, hl, p3.mono (EndS.tr (nn.trans n3)) (XS.tr (nn.trans n3))⟩
      | bk e => exact fun ρ3 σ3 H3 n3 => p3 ρ3 σ3 H3 (nn.trans n3)
      | rt d => exact fun ρ3 v H3 n3 => p3 ρ3 v H3 (nn.trans n3)
    · exact st.elim
  · left
    have e : i = it.ds.length := by omega
    rw [e, List.drop_length] at st
    unfold mLoop at st
    split at st
    · rename_i hc
      refine ⟨(hJ w n hc i).1 (by omega), ?_⟩
      exact st _ _ _ (Nx.refl n.ok) φ sl
    · exact st.elim
theorem ss_for {wi : TI} {im : IM} (hi : SimI K Φ W wi im) (hg : SimG K Φ W g gm) (hb : SimS K Φ W ts s) : SimS K Φ W (zFor wi g ts) (sFor im gm s) := by
  intro w σ env D ok φ sl st
  refine hi w σ env _ ok φ sl ((Rs.sat_at.mp (Rs.sat_bind.mp st)).mono (fun it h1 p => ?_) fun x e h' p => XS.xe ok φ sl x e h' p)
  intro ρ1 J H1 n1 hJ
  exact ss_loop (w0 := ⟨ρ1, h1, H1⟩) hg hb hJ n1.ok (Φ.mono _ _ _ ok n1 φ) (sl.nx ok n1) (p.mono (EndS.tr n1) (XS.tr n1))
theorem ss_while {tc : TT} {c : BM} (hc : SimT K Φ W tc c) (hb : SimS K Φ W ts s) : SimS K Φ W (fun D σ H => ZWhile tc ts D σ H) (sWhile c s) := by
  intro w0 σ env D ok φ sl st
  unfold sWhile at st
  split at st
  · rename_i hh
    generalize Classical.choose hh = n0 at st
    refine ⟨fun m σ H => ∃ (w : Wd) (env : Mv), w.H = H ∧ Nx K w0 w ∧ Φ.p w σ ∧ SlR K w σ env ∧ (whileN c s m env w.h).sat (EndS K Φ w D) (XS K Φ W w), ⟨n0, w0, env, rfl, Nx.refl ok, φ, sl, st⟩, ?_⟩
    rintro m σ H ⟨w, env, rfl, n, φ, sl, st⟩
    cases m with
    | zero => exact st.elim
    | succ m =>
      unfold whileN at st
      refine hc.to n.ok φ sl st fun w1 b n1 ok1 φ1 sl1 s1 => ?_
      unfold kWh at s1
      cases b with
      | false =>
        rw [if_neg Bool.false_ne_true] at s1 ⊢
        exact s1 _ _ _ n1 φ1 sl1
      | true =>
        rw [if_pos rfl] at s1 ⊢
        refine ⟨_, fun σ' H' z => ⟨m, Nat.lt_succ_self _, z⟩, ?_⟩
        refine hb w1 σ env _ ok1 φ1 sl1 ((Rs.sat_bind.mp s1).mono (fun o h3 p3 => ?_) fun _ _ _ e => e)
        cases o with
        | nx e => exact fun ρ3 σ3 H3 n3 φ3 sl3 => ⟨⟨ρ3, h3, H3⟩, e, rfl, (n.trans n1).trans n3, φ3, sl3, p3.mono (EndS.tr (n1.trans n3)) (XS.tr n3)⟩
        | ct e => exact fun ρ3 σ3 H3 n3 φ3 sl3 => ⟨⟨ρ3, h3, H3⟩, e, rfl, (n.trans n1).trans n3, φ3, sl3, p3.mono (EndS.tr (n1.trans n3)) (XS.tr n3)⟩
        | bk e => exact fun ρ3 σ3 H3 n3 => p3 ρ3 σ3 H3 (n1.trans n3)
        | rt d => exact fun ρ3 v H3 n3 => p3 ρ3 v H3 (n1.trans n3)
  · exact st.elim
/-! what is walked -/
theorem j_seq {w : Wd} (ok : w.Ok K) {x : D} {v : V} {ds : List D} (e : seqOf w.h x = some ds) (hx : ∀ a, x ≠ .ref a) (r : RepV K w x v) {J : It → Prop} (hJ : ∀ p b vs, v = .ref p → (match b with | true => SqL K w.H p vs | false => SqT K w.H p vs) → JSim K w (match b with | true => Itl K p | false => Itt K p) ⟨none, ds⟩ → J (match b with | true => Itl K p | false => Itt K p)) : ∃ p b vs, v = .ref p ∧ (match b with | true => SqL K w.H p vs | false => SqT K w.H p vs) ∧ J (match b with | true => Itl K p | false => Itt K p) := by
  cases x with
  | tup xs =>
    cases e
    obtain ⟨p, vs, ev, s, rl⟩ := rt r
    refine ⟨p, false, vs, ev, s, hJ p false vs ev s ?_⟩
    intro w' n _ i
    have s' : SqT K w'.H p vs := sqT_fz s fun _ _ h f => n.fz ok h f
    refine ⟨fun hl => ⟨vs, s', by rw [rl.len]; exact hl⟩, fun d hd => ?_⟩
    obtain ⟨u, eu, ru⟩ := (n.l ok rl).at hd
    refine ⟨⟨vs, u, s', eu⟩, fun y H' hy => ?_⟩
    obtain ⟨rfl, hy⟩ := hy
    refine ⟨w'.ρ, Nx.refl n.ok, ?_⟩
    have q := hy vs s'
    rw [eu] at q
    cases q
    exact ru
  | scr xs =>
    cases e
    obtain ⟨p, vs, ev, s, rl⟩ := rc r
    refine ⟨p, true, vs, ev, s.sq, hJ p true vs ev s.sq ?_⟩
    intro w' n _ i
    have s' : SqL K w'.H p vs := (fzL_fz s fun _ _ h f => n.fz ok h f).sq
    refine ⟨fun hl => ⟨vs, s', by rw [rl.len]; exact hl⟩, fun d hd => ?_⟩
    obtain ⟨u, eu, ru⟩ := (n.l ok rl).at hd
    refine ⟨⟨vs, u, s', eu⟩, fun y H' hy => ?_⟩
    obtain ⟨rfl, hy⟩ := hy
    refine ⟨w'.ρ, Nx.refl n.ok, ?_⟩
    have q := hy vs s'
    rw [eu] at q
    cases q
    exact ru
  | ref a => exact (hx a rfl).elim
  | _ => cases e
theorem j_lst {w : Wd} (ok : w.Ok K) {a : Nat} {ds : List D} (hl : a < w.h.length) : JSim K w (Itl K (w.ρ a)) ⟨some a, ds⟩ := by
  intro w' n hc i
  have e := hc a rfl
  have hl' := Nat.lt_of_lt_of_le hl n.le
  obtain ⟨vs, ev, _, eh, rl⟩ := lst_z n.ok e (v := .ref (w'.ρ a)) (by unfold RepV; exact ⟨hl', rfl⟩)
  rw [n.ag a hl] at eh
  have s' : SqL K w'.H (w.ρ a) vs := SqL.of eh
  refine ⟨fun hl => ⟨vs, s', by rw [rl.len]; exact hl⟩, fun d hd => ?_⟩
  obtain ⟨u, eu, ru⟩ := rl.at hd
  refine ⟨⟨vs, u, s', eu⟩, fun y H' hy => ?_⟩
  obtain ⟨rfl, hy⟩ := hy
  refine ⟨w'.ρ, Nx.refl n.ok, ?_⟩
  have q := hy vs s'
  rw [eu] at q
  cases q
  exact ru
theorem j_str {w : Wd} {z : Str} : JSim K w (Its z) ⟨none, z.cps.toList.map fun c => .str ⟨#[c]⟩⟩ := by
  intro w' n _ i
  refine ⟨fun hl => ?_, fun d hd => ?_⟩
  · show z.cps.size ≤ i
    simpa using hl
  · rw [List.getElem?_map] at hd
    obtain ⟨c, ec, rfl⟩ := Option.map_eq_some_iff.mp hd
    have hi : i < z.cps.size := by
      have := (List.getElem?_eq_some_iff.mp ec).1
      simpa using this
    refine ⟨hi, fun y H' hy => ?_⟩
    obtain ⟨rfl, c2, hc, rfl⟩ := hy
    have e : c2 = c := by
      have : z.cps.toList[i]? = some c2 := by rw [← hc]; simp
      rw [ec] at this
      exact (Option.some.inj this).symm
    subst e
    exact ⟨w'.ρ, Nx.refl n.ok, ws⟩
theorem si_seq (ha : SimE K Φ W ta a) : SimI K Φ W (zIt K ta) (iSeq a) := by
  intro w σ env R ok φ sl s
  refine ha.go ok φ sl s fun w1 d v n1 ok1 φ1 sl1 r1 s1 => ?_
  unfold kSeqI at s1
  split at s1
  · cases rs r1
    exact s1 _ _ _ n1 j_str
  · rename_i a
    obtain ⟨it, e, p⟩ := ofO_sat s1
    obtain ⟨ds, e1, rfl⟩ := Option.map_eq_some_iff.mp e
    obtain ⟨vs, ev, hl, eh, rl⟩ := lst_z ok1 e1 r1
    subst ev
    exact ⟨⟨true, vs, SqL.of eh, p _ _ _ n1 (j_lst ok1 hl)⟩⟩
  · rename_i h1 h2
    obtain ⟨it, e, p⟩ := ofO_sat s1
    obtain ⟨ds, e1, rfl⟩ := Option.map_eq_some_iff.mp e
    obtain ⟨q, b, vs, ev, sq, j⟩ := j_seq ok1 e1 (fun a z => h2 a z) r1 (J := fun J => R J w1.H) fun q b vs _ _ j => p _ _ _ n1 j
    subst ev
    cases b
    · exact ⟨⟨false, vs, sq, j⟩⟩
    · exact ⟨⟨true, vs, sq, j⟩⟩
theorem si_rng1 (ha : SimA K Φ W t m) : SimI K Φ W (zRng1 t) (iRng1 m) := by
  intro w σ env R ok φ sl s
  refine ha.go ok φ sl s fun w1 d v n1 ok1 φ1 sl1 r1 s1 => ?_
  unfold kRng1 at s1
  split at s1
  · rename_i j
    split at s1
    · rename_i c
      obtain ⟨v1, vs, rfl, r3, r2⟩ := rl1 r1
      cases rl0 r2
      cases ri r3
      refine ⟨⟨by omega, by omega⟩, s1 _ _ _ n1 ?_⟩
      intro w' n _ i
      refine ⟨fun hl => ?_, fun d hd => ?_⟩
      · show j.toNat ≤ i
        simpa using hl
      · rw [List.getElem?_map] at hd
        obtain ⟨k, ek, rfl⟩ := Option.map_eq_some_iff.mp hd
        obtain ⟨hk, ek⟩ := List.getElem?_eq_some_iff.mp ek
        rw [List.getElem_range] at ek
        subst ek
        have hk' : i < j.toNat := by simpa using hk
        refine ⟨hk', fun y H' hy => ?_⟩
        obtain ⟨rfl, rfl⟩ := hy
        refine ⟨w'.ρ, Nx.refl n.ok, ?_⟩
        rw [Int.zero_add]
        exact wi
    · exact s1.elim
  · exact s1.elim
/-! errors -/
theorem src_rep {w : Wd} {ds : List D} {vs : List V} (r : RepL K w ds vs) (s : Src) : RepV K w (Src.dv ds s) (Src.val vs s) := by
  cases s with
  | cst x => exact ws
  | par i =>
    show RepV K w (ds.getD i .non) (vs.getD i .non)
    rw [List.getD_eq_getElem?_getD, List.getD_eq_getElem?_getD]
    cases e : ds[i]? with
    | none =>
      have hl := List.getElem?_eq_none_iff.mp e
      rw [List.getElem?_eq_none (by rw [r.len]; exact hl)]
      exact wn
    | some d =>
      obtain ⟨v, ev, rv⟩ := r.at e
      rw [ev]
      exact rv
theorem mk_rep {w : Wd} {ds : List D} {vs : List V} (r : RepL K w ds vs) : ∀ l : List (String × Src), RepF K w (mkF l ds) (mkVF l vs)
  | [] => rfl
  | (f, s) :: l => ⟨_, _, rfl, src_rep r s, mk_rep r l⟩
theorem ss_raise {c : String} {n : Nat} {l : List (String × Src)} (ha : SimA K Φ W t m) : SimS K Φ W (zRaise (He.ga K (nm c)) n (mkVF l) W t) (sRaise c n l m) := by
  intro w σ env D ok φ sl s
  refine ha.to ok φ sl s fun w1 d v n1 ok1 φ1 sl1 r1 s1 => ?_
  unfold kRaise at s1
  split at s1
  · rename_i hc
    refine ⟨⟨by rw [r1.len]; exact hc.1, by rw [r1.len, hc.1]; exact hc.2⟩, ⟨fun q nq => ?_⟩⟩
    have nx := nx_fz (o := .xd (mkVF l v)) ok1 nq
    exact s1 _ _ _ _ _ nx (Φ.mono _ _ _ ok1 nx φ1) (sl1.nx ok1 nx) ⟨rfl, q, _, rfl, upd_same, nx.f ok1 (mk_rep r1 l)⟩
  · exact s1.elim
/-- in a suite: the error at hand -/
def Ph.er {K : PySem.W.Frag} (Φ : Ph K) (x : Er) (i : Nat) (a : Addr) (cls : Value) (d : Option Addr) : Ph K where
  p := fun w σ => Φ.p w σ ∧ ErrR K w x cls d ∧ σ[i]? = some (some (.ref a))
  ok := fun j => Φ.ok j ∧ j ≠ i
  mono := fun w w' σ ok n h => ⟨Φ.mono _ _ _ ok n h.1, h.2.1.nx ok n, h.2.2⟩
  st := fun w σ j v hj h => ⟨Φ.st _ _ _ _ hj.1 h.1, h.2.1, by rw [List.getElem?_set_ne hj.2]; exact h.2.2⟩
/-- what a clause says of the errors of the program -/
def ExF (K : PySem.W.Frag) (cv : Value) (sub : String → Option Bool) : Prop := ∀ c b, sub c = some b → PySem.W.exmOne K (.ref (He.ga K (nm c))) cv = some b
def IsF (K : PySem.W.Frag) (cv : Value) (sub : String → Option Bool) : Prop := ∀ c b, sub c = some b → IsC K (He.ga K (nm c)) ∧ PySem.W.kitOne K (.ref (He.ga K (nm c))) cv = some b
theorem ss_try {cv : Value} {i : Nat} {sub : String → Option Bool} {tb : WX → TS} {tsu : Addr → Value → Option Addr → TS} {su : Er → SM} (hx : ExF K cv sub) (hb : ∀ W', SimS K Φ W' (tb W') s) (hi : Φ.ok i)
    (hs : ∀ x a cls d, SimS K (Φ.er x i a cls d) (fun _ _ _ _ => False) (tsu a cls d) (su x)) : SimS K Φ W (fun D σ H => tb (zWas K cv i tsu W D) D σ H) (sTry sub i s su) := by
  intro w σ env D ok φ sl st
  refine hb _ w σ env D ok φ sl ?_
  unfold sTry at st
  cases e : s env w.h with
  | ok o h1 =>
    rw [e] at st
    exact st
  | no =>
    rw [e] at st
    exact st.elim
  | er x e1 h1 =>
    rw [e] at st
    have st : (tryEr sub i su x e1 h1).sat (EndS K Φ w D) (XS K Φ W w) := st
    unfold tryEr at st
    intro ρ1 σ1 cls d H1 n1 φ1 sl1 er1
    have ecls : cls = .ref (He.ga K (nm x.c)) := er1.1
    split at st
    · rename_i hsub
      refine ⟨true, by rw [ecls]; exact hx _ _ hsub, ?_⟩
      intro a ha
      rw [zs_eq]
      split at st
      · rename_i hl
        refine hs x a cls d ⟨ρ1, h1, H1⟩ _ (e1.set i none) _ n1.ok ⟨Φ.st _ _ _ _ hi φ1, er1, List.getElem?_set_self (by rw [sl1.1]; exact hl)⟩ (sl1.cut i _) ((Rs.sat_ne (Rs.sat_bind.mp st)).mono (fun o h2 p => ?_) fun _ _ _ z => z.elim)
        cases o with
        | nx e =>
          intro ρ3 σ3 H3 n3 φ3 sl3
          show zsn σ3 i _
          rw [zsn_eq]
          exact p _ _ _ (n1.trans n3) (Φ.st _ _ _ _ hi φ3.1) (sl3.cut i _)
        | bk e =>
          intro ρ3 σ3 H3 n3 φ3 sl3
          show zsn σ3 i _
          rw [zsn_eq]
          exact p _ _ _ (n1.trans n3) (Φ.st _ _ _ _ hi φ3.1) (sl3.cut i _)
        | ct e =>
          intro ρ3 σ3 H3 n3 φ3 sl3
          show zsn σ3 i _
          rw [zsn_eq]
          exact p _ _ _ (n1.trans n3) (Φ.st _ _ _ _ hi φ3.1) (sl3.cut i _)
        | rt d => exact fun ρ3 v H3 n3 => p ρ3 v H3 (n1.trans n3)
      · exact st.elim
    · rename_i hsub
      refine ⟨false, by rw [ecls]; exact hx _ _ hsub, ?_⟩
      exact st ρ1 σ1 cls d H1 n1 φ1 sl1 er1
    · exact st.elim
theorem RepF.lk {w : Wd} : ∀ {fs : List (String × D)} {vs : List (Str × V)} {f : String} {d : D}, RepF K w fs vs → fs.lookup f = some d → ∃ v, vs.lookup (nm f) = some v ∧ RepV K w d v
  | [], _, _, _, _, e => by cases e
  | (g, x) :: fs, _, f, d, r, e => by
    obtain ⟨v, rs, rfl, r0, t⟩ := r
    rw [List.lookup_cons] at e ⊢
    by_cases h : f = g
    · subst h
      rw [beq_self_eq_true] at e
      cases e
      rw [beq_self_eq_true]
      exact ⟨v, rfl, r0⟩
    · have h2 : (f == g) = false := beq_eq_false_iff_ne.mpr h
      have h3 : (nm f == nm g) = false := beq_eq_false_iff_ne.mpr fun z => h (nm_inj.mp z)
      rw [h2] at e
      rw [h3]
      exact RepF.lk t e
theorem RepF.lkn {w : Wd} : ∀ {fs : List (String × D)} {vs : List (Str × V)} {f : String}, RepF K w fs vs → fs.lookup f = none → vs.lookup (nm f) = none
  | [], _, _, r, _ => by
    cases (show _ = _ from r)
    rfl
  | (g, x) :: fs, _, f, r, e => by
    obtain ⟨v, rs, rfl, r0, t⟩ := r
    rw [List.lookup_cons] at e ⊢
    by_cases h : f = g
    · subst h
      rw [beq_self_eq_true] at e
      cases e
    · have h2 : (f == g) = false := beq_eq_false_iff_ne.mpr h
      have h3 : (nm f == nm g) = false := beq_eq_false_iff_ne.mpr fun z => h (nm_inj.mp z)
      rw [h2] at e
      rw [h3]
      exact RepF.lkn t e
end
end M

/-! M4: calls, classes, what a def does -/
namespace M
open PySem PySem.Spec PyProof.Rows L2 Z
/-! ### instances -/
def rankD (s : Str) : Int := ((if s = "line" then 0 else if s = "elder" then 1 else 2 : Nat) : Int)
def insOf (h : Mh) : D → Option (String × List (String × D))
  | .kin u d s => some ("Kin", [("up", .int u), ("down", .int d), ("side", .str s), ("far", .int (u + d)), ("rank", .int (rankD s))])
  | .ref a => match h[a]? with
    | some (.ins C fs) => some (C, fs)
    | _ => none
  | _ => none
def oFld (c f : String) : O1 := fun x h => (insOf h x).bind fun p => if p.1 = c then (p.2.lookup f).map fun d => (d, h) else none
/-- a constant of the class -/
def oCn (c f : String) (d : D) : O1 := fun x h => (insOf h x).bind fun p => if p.1 = c ∧ p.2.lookup f = none then some (d, h) else none
def putD (f : String) (d : D) : List (String × D) → List (String × D)
  | [] => [(f, d)]
  | (g, x) :: r => if g = f then (g, d) :: r else (g, x) :: putD f d r
def kFsetB (c f : String) (env : Mv) (y x : D) (h : Mh) : Rs So := match x with
  | .ref i => match h[i]? with
    | some (.ins C fs) => if C = c ∧ fs.length < 1000 then .ok (.nx env) (h.set i (.ins C (putD f y fs))) else .no
    | _ => .no
  | _ => .no
def kFsetA (c f : String) (a : EM) (env : Mv) (y : D) (h : Mh) : Rs So := ((a env h).at env).bind (kFsetB c f env y)
def sFset (c f : String) (a v : EM) (env : Mv) (h : Mh) : Rs So := ((v env h).at env).bind (kFsetA c f a env)
def kMthB (f : FM) (env : Mv) (x : D) (ds : List D) (h : Mh) : Rs D := (f (x :: ds) h).at env
def kMthA (c n : String) (f : FM) (t : AM) (env : Mv) (x : D) (h : Mh) : Rs D := match insOf h x with
  | some (C, fs) => if C = c ∧ fs.lookup n = none then (t env h).bind (kMthB f env x) else .no
  | none => .no
def mMth (c n : String) (f : FM) (a : EM) (t : AM) (env : Mv) (h : Mh) : Rs D := (a env h).bind (kMthA c n f t env)
def kPrp (c : String) (f : FM) (x : D) (h : Mh) : Rs D := match insOf h x with
  | some (C, _) => if C = c then (f [x] h).ne else .no
  | none => .no
def mPrp (c : String) (f : FM) (a : EM) (env : Mv) (h : Mh) : Rs D := (a env h).bind (kPrp c f)
def kUnO (c : String) (f : FM) (env : Mv) (x : D) (h : Mh) : Rs D := match insOf h x with
  | some (C, _) => if C = c then (f [x] h).at env else .no
  | none => .no
def mUnO (c : String) (f : FM) (a : EM) (env : Mv) (h : Mh) : Rs D := (a env h).bind (kUnO c f env)
def kBinIB (c : String) (f : FM) (env : Mv) (x y : D) (h : Mh) : Rs D := match y with
  | .int _ => match insOf h x with
    | some (C, _) => if C = c then (f [x, y] h).at env else .no
    | none => .no
  | _ => .no
def kBinIA (c : String) (f : FM) (b : EM) (env : Mv) (x : D) (h : Mh) : Rs D := (b env h).bind (kBinIB c f env x)
def mBinI (c : String) (f : FM) (a b : EM) (env : Mv) (h : Mh) : Rs D := (a env h).bind (kBinIA c f b env)
def kMakeB (i : Nat) (d : D) (h : Mh) : Rs D := match d with
  | .non => .ok (.ref i) h
  | _ => .no
def kMakeA (c : String) (f : FM) (env : Mv) (ds : List D) (h : Mh) : Rs D := ((f (.ref h.length :: ds) (h ++ [.ins c []])).at env).bind (kMakeB h.length)
def mMake (c : String) (f : FM) (t : AM) (env : Mv) (h : Mh) : Rs D := (t env h).bind (kMakeA c f env)
def okKinD (u d : Int) (s : Str) : Prop := (0 ≤ u ∧ u ≤ 999) ∧ (0 ≤ d ∧ d ≤ 999) ∧ (((u = 0 ∨ d = 0) ∧ s = "line") ∨ ((u ≠ 0 ∧ d ≠ 0) ∧ (s = "elder" ∨ s = "younger")))
instance {u d : Int} {s : Str} : Decidable (okKinD u d s) := by unfold okKinD; infer_instance
def badKinD (u d : Int) (s : Str) : Er := ⟨"BadKin", [("side", .str s), ("down", .int d), ("up", .int u), ("reason", .str "bad kin")]⟩
def kKin (env : Mv) (ds : List D) (h : Mh) : Rs D := match ds with
  | [.int u, .int d, .str s] => if okKinD u d s then .ok (.kin u d s) h else .er (badKinD u d s) env h
  | _ => .no
def mKin (t : AM) (env : Mv) (h : Mh) : Rs D := (t env h).bind (kKin env)
inductive Tag where
  | b (t : Tn)
  | o (c : String)
def tagOf (h : Mh) : D → Option Tag
  | .non => some (.b .non)
  | .bl _ => some (.b .bool)
  | .int _ => some (.b .int)
  | .str _ => some (.b .str)
  | .tup _ => some (.b .tuple)
  | .scr _ => some (.b .list)
  | .kin _ _ _ => some (.o "Kin")
  | .ref a => match h[a]? with
    | some (.lst _) => some (.b .list)
    | some (.ins C _) => some (.o C)
    | some (.dK _) => some (.b .dict)
    | some (.dT _) => some (.b .dict)
    | none => none
def oIsI (tab : Tag → Option Bool) : O1 := fun x h => ((tagOf h x).bind tab).map fun b => (.bl b, h)
/-- a table of the top: texts to texts -/
def oKd (tab : Str → Option Str) : O1 := fun x h => match x with
  | .str z => (tab z).map fun y => (.str y, h)
  | _ => none
section
variable {K : PySem.W.Frag} {w : Wd}
structure ClsX (K : PySem.W.Frag) (C : String) : Prop where
  c : Cls K (He.ga K (nm C))
  i : OwnI K (He.ga K (nm C))
theorem ins_z {x : D} {v : V} {C : String} {fs : List (String × D)} (ok : w.Ok K) (e : insOf w.h x = some (C, fs)) (r : RepV K w x v) : ∃ a dx vs, v = .ref a ∧ w.H a = some (.ins (He.ga K (nm C)) dx vs) ∧ RepF K w fs vs := by
  cases x with
  | kin u d s =>
    cases e
    obtain ⟨p, dx, e, h⟩ := rk r
    exact ⟨p, dx, _, e, h, ⟨_, _, rfl, wi, _, _, rfl, wi, _, _, rfl, ws, _, _, rfl, wi, _, _, rfl, wi, rfl⟩⟩
  | ref a =>
    unfold insOf at e
    dsimp only at e
    split at e
    · rename_i C' fs' ex
      cases e
      obtain ⟨hl, ev⟩ := rr r
      obtain ⟨n, dx, vs, eh, rf⟩ := ok.obj a _ ex
      exact ⟨_, dx, vs, ev, eh, rf⟩
    · cases e
  | _ => cases e
theorem s_fld {c f : String} (cl : Cls K (He.ga K (nm c))) (na : NoAttr K (He.ga K (nm c)) (nm f)) : Sim1 K (fun x H Q => zIns x H fun _ C _ fs => ZFl K C (nm f) fs fun v => Q v H) (oFld c f) := by
  intro w x vx Q d h' ok rx e p
  obtain ⟨⟨C, fs⟩, e1, e2⟩ := Option.bind_eq_some_iff.mp e
  dsimp only at e2
  split at e2
  · rename_i hc
    subst hc
    obtain ⟨d2, e3, e4⟩ := Option.map_eq_some_iff.mp e2
    cases e4
    obtain ⟨a, dx, vs, ev, eh, rf⟩ := ins_z ok e1 rx
    subst ev
    obtain ⟨v, el, rv⟩ := rf.lk e3
    exact ⟨_, eh, ⟨⟨cl, na, v, el, p _ _ _ (Nx.refl ok) rv⟩⟩⟩
  · cases e2
theorem s_cn {c f : String} {d : D} {v : V} {u : Value} (cl : Cls K (He.ga K (nm c))) (cn : Con K (He.ga K (nm c)) (nm f) v u) (r : ∀ w, RepV K w d v) : Sim1 K (fun x H Q => zIns x H fun _ C _ fs => ZCn K C (nm f) fs fun v => Q v H) (oCn c f d) := by
  intro w x vx Q d2 h' ok rx e p
  obtain ⟨⟨C, fs⟩, e1, e2⟩ := Option.bind_eq_some_iff.mp e
  dsimp only at e2
  split at e2
  · rename_i hc
    obtain ⟨hc, hl⟩ := hc
    subst hc
    cases e2
    obtain ⟨a, dx, vs, ev, eh, rf⟩ := ins_z ok e1 rx
    subst ev
    exact ⟨_, eh, ⟨⟨cl, rf.lkn hl, v, u, cn, p _ _ _ (Nx.refl ok) (r _)⟩⟩⟩
  · cases e2
theorem RepF.put {f : String} {d : D} {v : V} (r : RepV K w d v) : ∀ {fs : List (String × D)} {vs : List (Str × V)}, RepF K w fs vs → RepF K w (putD f d fs) (putF (nm f) v vs)
  | [], _, h => by
    cases (show _ = _ from h)
    exact ⟨v, [], rfl, r, rfl⟩
  | (g, x) :: fs, _, h => by
    obtain ⟨u, rs, rfl, r0, t⟩ := h
    unfold putD putF
    by_cases e : g = f
    · subst e
      rw [if_pos rfl, if_pos rfl]
      exact ⟨v, rs, rfl, r, t⟩
    · rw [if_neg e, if_neg fun z => e (nm_inj.mp z)]
      exact ⟨u, _, rfl, r0, RepF.put r t⟩
theorem RepF.len : ∀ {fs : List (String × D)} {vs : List (Str × V)}, RepF K w fs vs → vs.length = fs.length
  | [], _, h => by cases (show _ = _ from h); rfl
  | (g, x) :: fs, _, h => by
    obtain ⟨u, rs, rfl, r0, t⟩ := h
    rw [List.length_cons, List.length_cons, RepF.len t]
/-- isinstance -/
def IsO (K : PySem.W.Frag) (u : Value) (tab : Tag → Option Bool) : Prop := ∀ g b, tab g = some b → match g with
  | .b t => PySem.W.kitOne K (.type t.nm) u = some b
  | .o c => ClsX K c ∧ PySem.W.kitOne K (.ref (He.ga K (nm c))) u = some b
theorem tyx {x : D} {v : V} {g : Tag} (ok : w.Ok K) (e : tagOf w.h x = some g) (r : RepV K w x v) (hc : ∀ c, g = .o c → ClsX K c) : TyX K w.H v (match g with | .b t => .type t.nm | .o c => .ref (He.ga K (nm c))) := by
  cases x with
  | non => cases e; cases rn r; exact .base .non
  | bl b => cases e; cases rb r; exact .base (.bl _)
  | int b => cases e; cases ri r; exact .base (.int _)
  | str b => cases e; cases rs r; exact .base (.str _)
  | tup ds =>
    cases e
    obtain ⟨p, vs, ev, s, _⟩ := rt r
    subst ev
    rcases s with (h | ⟨o, h⟩) | ⟨o, its, n, h, c, _⟩
    · exact .base (.tup h)
    · exact .fTuple h
    · exact .kTuple h c
  | scr ds =>
    cases e
    obtain ⟨p, vs, ev, s, _⟩ := rc r
    subst ev
    rcases s with ⟨o, h⟩ | ⟨o, its, n, h, c, _⟩
    · exact .base (.frz h)
    · exact .kList h c
  | kin u d s =>
    cases e
    obtain ⟨p, dx, ev, h⟩ := rk r
    subst ev
    have x := hc _ rfl
    exact .base (.ins h x.c x.i.ca x.i.cn x.i.ct x.i.cm)
  | ref a =>
    obtain ⟨hl, ev⟩ := rr r
    subst ev
    unfold tagOf at e
    dsimp only at e
    split at e
    · rename_i ex
      cases e
      obtain ⟨vs, eh, _⟩ := ok.obj a _ ex
      exact .base (.lst eh)
    · rename_i ex
      cases e
      obtain ⟨_, dx, vs, eh, _⟩ := ok.obj a _ ex
      have x := hc _ rfl
      exact .base (.ins eh x.c x.i.ca x.i.cn x.i.ct x.i.cm)
    · rename_i ex
      cases e
      obtain ⟨vs, eh, _⟩ := ok.obj a _ ex
      exact .base (.dK eh)
    · rename_i ex
      cases e
      obtain ⟨vs, eh, _⟩ := ok.obj a _ ex
      exact .base (.dT eh)
    · cases e
theorem s_isi {c : V} {u : Value} {tab : Tag → Option Bool} (ck : ClsV c u) (ht : IsO K u tab) : Sim1 K (fun x H Q => ZIsi K x H c fun b => Q (.bl b) H) (oIsI tab) := by
  intro w x vx Q d h' ok rx e p
  obtain ⟨b, e1, e2⟩ := Option.map_eq_some_iff.mp e
  cases e2
  obtain ⟨g, e3, e4⟩ := Option.bind_eq_some_iff.mp e1
  have q := ht g b e4
  refine ⟨_, u, b, ck, tyx ok e3 rx (fun c ec => ?_), ?_, p _ _ _ (Nx.refl ok) wb⟩
  · subst ec
    exact q.1
  · cases g with
    | b t => exact q
    | o c => exact q.2
end
/-- a table for a built-in type -/
def tabT (tn : Tn) : Tag → Option Bool
  | .b t => some (isT t tn)
  | .o _ => none
theorem isO_T {K : PySem.W.Frag} (tn : Tn) : IsO K (.type tn.nm) (tabT tn) := by
  intro g b e
  cases g with
  | b t => cases e; exact kit_ty (isT_ok t tn)
  | o c => cases e
/-! ### calls -/
/-- what a def does, as a promise -/
def spM (K : PySem.W.Frag) (f : FM) (np : Nat) : Sp := fun vs H Q E => vs.length = np ∧ ∃ (w : Wd) (ds : List D), w.H = H ∧ w.Ok K ∧ RepL K w ds vs ∧
  (f ds w.h).sat (PV K w Q) (fun x _ h' => ∀ ρ' cls d H', Nx K w ⟨ρ', h', H'⟩ → ErrR K ⟨ρ', h', H'⟩ x cls d → E cls d H')
section
variable {K : PySem.W.Frag} {Φ : Ph K} {W : WX} {ta tb te : TE} {a b : EM} {t : TA} {m : AM} {f : FM} {np : Nat}
theorem fn_go {w : Wd} {vs : List V} {ds : List D} {Q : VK} {σ : St} {env : Mv} (hn : ∀ ds h, ds.length ≠ np → f ds h = .no) (ok : w.Ok K) (r : RepL K w ds vs) (s : ((f ds w.h).at env).sat (PV K w Q) (XE K W w σ)) : ZCall (spM K f np) vs w.H Q fun cls d H' => W cls d σ H' := by
  have s' := Rs.sat_at.mp s
  refine ⟨?_, w, ds, rfl, ok, r, s'⟩
  rw [r.len]
  by_cases h : ds.length = np
  · exact h
  · rw [hn _ _ h] at s'
    exact s'.elim
theorem mFun_n {n np : Nat} {body : SM} : ∀ ds h, ds.length ≠ np → mFun n np body ds h = .no := fun ds h hn => if_neg hn
theorem se_call (hn : ∀ ds h, ds.length ≠ np → f ds h = .no) (ha : SimA K Φ W t m) : SimE K Φ W (zCall (spM K f np) W t) (mCall f m) := by
  intro w σ env Q ok φ sl s
  refine ha.go ok φ sl s fun w1 d v n1 ok1 φ1 sl1 r1 s1 => ?_
  exact fn_go hn ok1 r1 (s1.mono (PV.tr n1) fun _ _ _ z => z)
theorem se_mth {c n : String} (hn : ∀ ds h, ds.length ≠ np → f ds h = .no) (ha : SimE K Φ W ta a) (ht : SimA K Φ W t m) : SimE K Φ W (zMth (He.ga K (nm c)) (nm n) (spM K f np) W ta t) (mMth c n f a m) := by
  intro w σ env Q ok φ sl s
  refine ha.go ok φ sl s fun w1 d v n1 ok1 φ1 sl1 r1 s1 => ?_
  unfold kMthA at s1
  split at s1
  · rename_i C fs e1
    split at s1
    · rename_i hc
      obtain ⟨hc, hl⟩ := hc
      subst hc
      obtain ⟨p, dx, vs, ev, eh, rf⟩ := ins_z ok1 e1 r1
      subst ev
      refine ⟨_, eh, ⟨rfl, rf.lkn hl, ?_⟩⟩
      refine ht.go ok1 φ1 sl1 s1 fun w2 d2 v2 n2 ok2 φ2 sl2 r2 s2 => ?_
      exact fn_go hn ok2 (wl1 (n2.v ok1 r1) r2) (s2.mono (PV.tr (n1.trans n2)) fun _ _ _ z => z)
    · exact s1.elim
  · exact s1.elim
theorem se_prp {c : String} (hn : ∀ ds h, ds.length ≠ np → f ds h = .no) (ha : SimE K Φ W ta a) : SimE K Φ W (zPrp (He.ga K (nm c)) (spM K f np) ta) (mPrp c f a) := by
  intro w σ env Q ok φ sl s
  refine ha.go ok φ sl s fun w1 d v n1 ok1 φ1 sl1 r1 s1 => ?_
  unfold kPrp at s1
  split at s1
  · rename_i C fs e1
    split at s1
    · rename_i hc
      subst hc
      obtain ⟨p, dx, vs, ev, eh, rf⟩ := ins_z ok1 e1 r1
      subst ev
      have s2 := Rs.sat_ne s1
      exact ⟨_, eh, ⟨rfl, fn_go (σ := []) (env := []) (W := fun _ _ _ _ => False) hn ok1 (wl1 r1 wl0) (Rs.sat_at.mpr (s2.mono (PV.tr n1) fun _ _ _ z => z.elim))⟩⟩
    · exact s1.elim
  · exact s1.elim
theorem se_unO {c : String} (hn : ∀ ds h, ds.length ≠ np → f ds h = .no) (ha : SimE K Φ W ta a) : SimE K Φ W (zUnO (He.ga K (nm c)) (spM K f np) W ta) (mUnO c f a) := by
  intro w σ env Q ok φ sl s
  refine ha.go ok φ sl s fun w1 d v n1 ok1 φ1 sl1 r1 s1 => ?_
  unfold kUnO at s1
  split at s1
  · rename_i C fs e1
    split at s1
    · rename_i hc
      subst hc
      obtain ⟨p, dx, vs, ev, eh, rf⟩ := ins_z ok1 e1 r1
      subst ev
      exact ⟨_, eh, ⟨rfl, fn_go hn ok1 (wl1 r1 wl0) (s1.mono (PV.tr n1) fun _ _ _ z => z)⟩⟩
    · exact s1.elim
  · exact s1.elim
theorem se_binI {c : String} (hn : ∀ ds h, ds.length ≠ np → f ds h = .no) (ha : SimE K Φ W ta a) (hb : SimE K Φ W tb b) : SimE K Φ W (zBinI (He.ga K (nm c)) (spM K f np) W ta tb) (mBinI c f a b) := by
  intro w σ env Q ok φ sl s
  refine ha.go ok φ sl s fun w1 d v n1 ok1 φ1 sl1 r1 s1 => ?_
  refine hb.go ok1 φ1 sl1 s1 fun w2 d2 v2 n2 ok2 φ2 sl2 r2 s2 => ?_
  unfold kBinIB at s2
  split at s2
  · cases ri r2
    split at s2
    · rename_i C fs e1
      split at s2
      · rename_i hc
        subst hc
        have r1' := n2.v ok1 r1
        obtain ⟨p, dx, vs, ev, eh, rf⟩ := ins_z ok2 e1 r1'
        subst ev
        exact ⟨_, eh, ⟨rfl, fn_go hn ok2 (wl1 r1' (wl1 wi wl0)) (s2.mono (PV.tr (n1.trans n2)) fun _ _ _ z => z)⟩⟩
      · exact s2.elim
    · exact s2.elim
  · exact s2.elim
theorem ss_fset {c g : String} (cl : Cls K (He.ga K (nm c))) (na : NoAttr K (He.ga K (nm c)) (nm g)) (ha : SimE K Φ W ta a) (hb : SimE K Φ W tb b) : SimS K Φ W (zFset K (nm g) ta tb) (sFset c g a b) := by
  intro w σ env D ok φ sl s
  refine hb.to ok φ sl s fun w1 d v n1 ok1 φ1 sl1 r1 s1 => ?_
  refine ha.to ok1 φ1 sl1 s1 fun w2 d2 v2 n2 ok2 φ2 sl2 r2 s2 => ?_
  unfold kFsetB at s2
  split at s2
  · rename_i i
    split at s2
    · rename_i C fs ex
      split at s2
      · rename_i hc
        obtain ⟨hc, hl⟩ := hc
        subst hc
        obtain ⟨hl2, ev⟩ := rr r2
        subst ev
        obtain ⟨ne, dx, vs, eh, rf⟩ := ok2.obj i _ ex
        refine ⟨_, eh, ⟨cl, na, by rw [rf.len]; exact hl, ⟨?_⟩⟩⟩
        have r1' := n2.v ok1 r1
        obtain ⟨le, ag, kf⟩ := set_keep (mo := .ins C (putD g d fs)) (o := .ins (He.ga K (nm C)) dx (putF (nm g) v vs)) ok2 hl2
        have n3 := nx_set (mo := .ins C (putD g d fs)) (o := .ins (He.ga K (nm C)) dx (putF (nm g) v vs)) ok2 hl2 ⟨ne, dx, _, upd_same, RepF.keep le ag kf _ _ (rf.put r1')⟩
        exact s2 _ _ _ ((n1.trans n2).trans n3) (Φ.mono _ _ _ ok2 n3 φ2) (sl2.nx ok2 n3)
      · exact s2.elim
    · exact s2.elim
  · exact s2.elim
/-- an instance is made -/
theorem se_make {c : String} (ne : He.ga K (nm c) ≠ kinC K) (hn : ∀ ds h, ds.length ≠ np → f ds h = .no) (ht : SimA K Φ W t m) : SimE K Φ W (zMake (He.ga K (nm c)) (spM K f np) W t) (mMake c f m) := by
  intro w σ env Q ok φ sl s
  refine ht.go ok φ sl s fun w1 d v n1 ok1 φ1 sl1 r1 s1 => ?_
  refine ⟨fun x dx nx nd xd => ?_⟩
  have nA := nx_fz (o := .own x) ok1 nd
  have nx' : (w1.fz dx (.own x)).H x = none := by
    show upd w1.H dx (.own x) x = none
    rw [upd_ne xd.symm]
    exact nx
  have nB := nx_new (mo := .ins c []) (o := .ins (He.ga K (nm c)) dx []) nA.ok nx' ⟨ne, dx, [], upd_same, rfl⟩
  have nAB := nA.trans nB
  have rr := wl1 (new_ref (K := K) (w := w1.fz dx (.own x)) (p := x) (mo := .ins c []) (o := .ins (He.ga K (nm c)) dx [])) (nAB.l ok1 r1)
  refine fn_go (w := (w1.fz dx (.own x)).new x (.ins c []) (.ins (He.ga K (nm c)) dx [])) (ds := .ref w1.h.length :: d) (env := env) hn nAB.ok rr (Rs.sat_at.mpr ?_)
  refine (Rs.sat_at.mp (Rs.sat_bind.mp (show (((f (.ref w1.h.length :: d) (w1.h ++ [.ins c []])).at env).bind (kMakeB w1.h.length)).sat _ _ from s1))).mono (fun r h2 p => ?_) fun x e h2 p => ?_
  · intro ρ3 v3 H3 n3 r3
    unfold kMakeB at p
    split at p
    · exact ⟨rn r3, p _ _ _ ((n1.trans nAB).trans n3) (n3.v nAB.ok new_ref)⟩
    · exact p.elim
  · exact fun ρ3 cls dd H3 n3 er => p ρ3 cls dd H3 (nAB.trans n3) er
end
/-! ### errors in a suite -/
section
variable {K : PySem.W.Frag} {Φ : Ph K} {W : WX}
def XfF (K : PySem.W.Frag) (f : String) (okc : String → Bool) : Prop := ∀ c, okc c = true → XfC K (He.ga K (nm c)) ∧ PySem.W.findIn K (.ref (He.ga K (nm c))) (nm f) = some none
def mXfE (okc : String → Bool) (x : Er) (f : String) (_ : Mv) (h : Mh) : Rs D := if okc x.c = true then .ofO (x.fs.lookup f) h else .no
theorem se_xf {x : Er} {i : Nat} {a : Addr} {cls : Value} {d : Option Addr} {f : String} {okc : String → Bool} (hx : XfF K f okc) : SimE K (Φ.er x i a cls d) W (zXf K a cls d (nm f) (zVar i)) (mXfE okc x f) := by
  intro w σ env Q ok φ sl s
  unfold mXfE at s
  split at s
  · rename_i hc
    obtain ⟨y, e, p⟩ := ofO_sat s
    obtain ⟨_, ⟨ec, dd, fs, ed, eh, rf⟩, es⟩ := φ
    obtain ⟨v, el, rv⟩ := rf.lk e
    refine zv_iff.mpr ⟨_, es, ?_⟩
    obtain ⟨h1, h2⟩ := hx _ hc
    exact ⟨_, dd, fs, v, rfl, ec, h1, h2, ed, eh, el, p _ _ _ (Nx.refl ok) rv⟩
  · exact s.elim
theorem se_isE {x : Er} {i : Nat} {a : Addr} {cls : Value} {d : Option Addr} {c : V} {u : Value} {sub : String → Option Bool} (ck : ClsV c u) (hx : IsF K u sub) : SimE K (Φ.er x i a cls d) W (tCB (zIsE K a cls d) (tCons (zVar i) (tCons (tC c) tNil))) (mIsE x sub) := by
  intro w σ env Q ok φ sl s
  obtain ⟨y, e, p⟩ := ofO_sat s
  obtain ⟨b, eb, rfl⟩ := Option.map_eq_some_iff.mp e
  obtain ⟨_, ⟨ec, dd, fs, ed, eh, rf⟩, es⟩ := φ
  obtain ⟨h1, h2⟩ := hx _ _ eb
  refine zv_iff.mpr ⟨_, es, ?_⟩
  exact ⟨_, dd, fs, u, b, rfl, ec, h1, ed, eh, ck, h2, p _ _ _ (Nx.refl ok) wb⟩
end
/-! ### a def -/
section
variable {K : PySem.W.Frag}
theorem start_rep {w : Wd} {N : List Str} {n : Nat} {ds : List D} {vs : List V} (hn : N.length = n) (r : RepL K w ds vs) : SlR K w (L2.start N vs) (ds.map some ++ List.replicate (n - ds.length) none) := by
  subst hn
  unfold L2.start
  refine ⟨by simp [r.len], fun i d h => ?_⟩
  by_cases hi : i < ds.length
  · rw [List.getElem?_append_left (by simpa using hi), List.getElem?_map] at h
    obtain ⟨x, ex, e2⟩ := Option.map_eq_some_iff.mp h
    cases e2
    obtain ⟨v, ev, rv⟩ := r.at ex
    refine ⟨v, ?_, rv⟩
    rw [List.getElem?_append_left (by rw [List.length_map, r.len]; exact hi), List.getElem?_map, ev]
    rfl
  · rw [List.getElem?_append_right (by simpa using hi), List.getElem?_replicate] at h
    split at h <;> cases h
/-- the body of a def does what the data says -/
theorem body_ok {N : List Str} {n np : Nat} {t : TS} {bm : SM} {vs : List V} {H : Hp} {Q : VK} {E : XK} (hN : N.length = n) (hs : SimS K (Ph.tt K) (fun cls d _ H => E cls d H) t bm) (h : spM K (mFun n np bm) np vs H Q E) : t { nx := fun _ H' => Q .non H', rt := Q } (L2.start N vs) H := by
  obtain ⟨hl, w, ds, rfl, ok, r, s⟩ := h
  have hd : ds.length = np := by rw [← r.len]; exact hl
  unfold mFun at s
  rw [if_pos hd] at s
  have s := Rs.sat_bind.mp (Rs.sat_at.mp s)
  refine hs w _ _ _ ok trivial (start_rep hN r) (s.mono (fun o h1 p => ?_) fun x e1 h1 p => ?_)
  · cases o with
    | nx e1 => exact fun ρ σ H' n' _ _ => p ρ .non H' n' wn
    | rt d => exact p
    | bk e1 => exact p.elim
    | ct e1 => exact p.elim
  · exact fun ρ σ cls d H' n' _ _ er => p ρ cls d H' n' er
theorem gfm_mk {m : Bool} {P : Program} {w : World} {mg : Str → Option Value} {base : Heap} {x qual : Str} {params : Arguments} {body : List Stmt} {scope : Scope} {f : Addr} {N ps : List Str} {k n np : Nat} {bm : SM} (hF : ∃ fd, FunD K x qual params body scope [] [] f fd) (hm : mg x = some (.ref f)) (S : FnScope N ps scope)
    (hb : ∀ (kV doc pm : Value) (an : Option Addr) (cdv ct : Value) (us : List Value), us.length = ps.length → bindArgs (PySem.W.fnOf x qual params body scope .none kV doc pm an cdv ct) ⟨us, []⟩ = pure (ps.zip us))
    (hN : N.length = n) (hnp : ps.length = np)
    (hbody : ∀ (cdv : Value) (A : Around) (outer : List Env) (s : Shared) (H : Hp) (E : XK) (pn : List (Addr × Obj)), Cz m (bodyCx m P w K mg base N qual scope f cdv A outer s H E pn) (fun cls d _ H => E cls d H) k →
      ∃ t, PSs (bodyCx m P w K mg base N qual scope f cdv A outer s H E pn) body t ∧ SimS K (Ph.tt K) (fun cls d _ H => E cls d H) t bm) : GFn m P w K mg base (k + 1) x ps (spM K (mFun n np bm) np) := by
  refine gfn_mk hF hm S hb (fun vs H Q E q => q.1.trans hnp.symm) fun cdv A outer s H vs Q E pn cz hsp => ?_
  obtain ⟨t, h1, h2⟩ := hbody cdv A outer s H E pn cz
  exact ⟨t, h1, body_ok hN h2 hsp⟩
theorem mfm_mk {P : Program} {w : World} {mg : Str → Option Value} {base : Heap} {x qual : Str} {params : Arguments} {body : List Stmt} {scope : Scope} {f : Addr} {N ps : List Str} {k n np : Nat} {bm : SM} (hF : ∃ fd, FunD K x qual params body scope [] [] f fd) (S : FnScope N ps scope)
    (hb : ∀ (kV doc pm : Value) (an : Option Addr) (cdv ct : Value) (us : List Value), us.length = ps.length → bindArgs (PySem.W.fnOf x qual params body scope .none kV doc pm an cdv ct) ⟨us, []⟩ = pure (ps.zip us))
    (hN : N.length = n) (hnp : ps.length = np)
    (hbody : ∀ (cdv : Value) (A : Around) (outer : List Env) (s : Shared) (H : Hp) (E : XK) (pn : List (Addr × Obj)), Cz true (bodyCx true P w K mg base N qual scope f cdv A outer s H E pn) (fun cls d _ H => E cls d H) k →
      ∃ t, PSs (bodyCx true P w K mg base N qual scope f cdv A outer s H E pn) body t ∧ SimS K (Ph.tt K) (fun cls d _ H => E cls d H) t bm) : MFn P w K mg base (k + 1) f ps (spM K (mFun n np bm) np) := by
  refine mfn_mk hF S hb (fun vs H Q E q => q.1.trans hnp.symm) fun cdv A outer s H vs Q E pn cz hsp => ?_
  obtain ⟨t, h1, h2⟩ := hbody cdv A outer s H E pn cz
  exact ⟨t, h1, body_ok hN h2 hsp⟩
end
end M

/-! M5: the forms that a derivation names -/
namespace M
open PySem PySem.Spec PyProof.Rows L2 Z
def oSlc : OSl := fun x lo hi h => match x with
  | .tup xs => if HT.sIx xs.length 0 lo = 0 ∧ HT.sIx xs.length xs.length hi = xs.length then none else some (.tup (cutD xs lo hi), h)
  | x => oSl x lo hi h
def isTy (T : String) (h : Mh) : D → Bool
  | .str _ => T == "str"
  | .ref a => T == "list" && (lstAt h a).isSome
  | _ => false
def kMethB (f : OMt) (x : D) (xs : List D) (h : Mh) : Rs D := .ofP (f x xs h)
def kMethA (T : String) (f : OMt) (a : AM) (env : Mv) (x : D) (h : Mh) : Rs D := if isTy T h x = true then (a env h).bind (kMethB f x) else .no
def mMethT (T : String) (f : OMt) (o : EM) (a : AM) (env : Mv) (h : Mh) : Rs D := (o env h).bind (kMethA T f a env)
section
variable {K : PySem.W.Frag} {Φ : Ph K} {W : WX} {ta tb te : TE} {a b : EM} {t : TA} {m : AM} {f : FM} {np : Nat} {w : Wd}
theorem s_slc : SimSl K (zSlc K) oSlc := s_sl
theorem se_fld {c f : String} (cl : Cls K (He.ga K (nm c))) (na : NoAttr K (He.ga K (nm c)) (nm f)) (ha : SimE K Φ W ta a) : SimE K Φ W (zFld K (nm f) ta) (mOp1 (oFld c f) a) := sim_op1 (s_fld cl na) ha
theorem se_cn {c f : String} {d : D} {v : V} {u : Value} (cl : Cls K (He.ga K (nm c))) (cn : Con K (He.ga K (nm c)) (nm f) v u) (r : ∀ w, RepV K w d v) (ha : SimE K Φ W ta a) : SimE K Φ W (zCn K (nm f) ta) (mOp1 (oCn c f d) a) := sim_op1 (s_cn cl cn r) ha
theorem se_isi {c : V} {u : Value} {tab : Tag → Option Bool} (ck : ClsV c u) (ht : IsO K u tab) (ha : SimE K Φ W ta a) : SimE K Φ W (tCB (zIsi K) (tCons ta (tCons (tC c) tNil))) (mOp1 (oIsI tab) a) := sim_op1 (s_isi ck ht) ha
theorem ty_v {T : String} {x : D} {v : V} (ok : w.Ok K) (e : isTy T w.h x = true) (r : RepV K w x v) : tyV K T v w.H := by
  cases x with
  | str z =>
    cases rs r
    have e2 : T = "str" := by simpa [isTy] using e
    subst e2
    exact rfl
  | ref a =>
    unfold isTy at e
    rw [Bool.and_eq_true] at e
    obtain ⟨e1, e2⟩ := e
    have e1' : T = "list" := by simpa using e1
    subst e1'
    obtain ⟨ds, ed⟩ := Option.isSome_iff_exists.mp e2
    obtain ⟨vs, ev, hl, eh, rl⟩ := lst_z ok ed r
    subst ev
    exact .inl ⟨rfl, vs, SqL.of eh⟩
  | _ => cases e
theorem se_meth {T : String} {r : V → List V → Hp → VK → Prop} {g : OMt} (hr : SimM K r g) (ho : SimE K Φ W ta a) (ht : SimA K Φ W t m) : SimE K Φ W (zMeth K T r ta t) (mMethT T g a m) := by
  intro w σ env Q ok φ sl s
  refine ho.go ok φ sl s fun w1 d v n1 ok1 φ1 sl1 r1 s1 => ?_
  unfold kMethA at s1
  split at s1
  · rename_i hc
    refine ⟨ty_v ok1 hc r1, ?_⟩
    refine ht.go ok1 φ1 sl1 s1 fun w2 d2 v2 n2 ok2 φ2 sl2 r2 s2 => ?_
    obtain ⟨x, h', e, p⟩ := ofP_sat s2
    exact hr w2 d d2 v v2 _ x h' ok2 (n2.v ok1 r1) r2 e (PV.tr (n1.trans n2) _ _ p)
  · exact s1.elim
theorem se_meth0 {T : String} {r : V → List V → Hp → VK → Prop} {g : OMt} (hr : SimM K r g) (ho : SimE K Φ W ta a) : SimE K Φ W (zMeth0 K T r ta) (mMethT T g a mNil) := by
  intro w σ env Q ok φ sl s
  refine ho.go ok φ sl s fun w1 d v n1 ok1 φ1 sl1 r1 s1 => ?_
  unfold kMethA at s1
  split at s1
  · rename_i hc
    refine ⟨ty_v ok1 hc r1, ?_⟩
    obtain ⟨x, h', e, p⟩ := ofP_sat (show (Rs.ofP (g d [] w1.h)).sat _ _ from s1)
    exact hr w1 d [] v [] _ x h' ok1 r1 wl0 e (PV.tr n1 _ _ p)
  · exact s1.elim
theorem se_absO {c : String} (hn : ∀ ds h, ds.length ≠ np → f ds h = .no) (ha : SimE K Φ W ta a) : SimE K Φ W (tCB (zAbsO (He.ga K (nm c)) (spM K f np)) (tCons ta tNil)) (mPrp c f a) := by
  intro w σ env Q ok φ sl s
  refine ha.go ok φ sl s fun w1 d v n1 ok1 φ1 sl1 r1 s1 => ?_
  unfold kPrp at s1
  split at s1
  · rename_i C fs e1
    split at s1
    · rename_i hc
      subst hc
      obtain ⟨p, dx, vs, ev, eh, rf⟩ := ins_z ok1 e1 r1
      subst ev
      have s2 := Rs.sat_ne s1
      exact ⟨_, eh, ⟨rfl, fn_go (σ := []) (env := []) (W := fun _ _ _ _ => False) hn ok1 (wl1 r1 wl0) (Rs.sat_at.mpr (s2.mono (PV.tr n1) fun _ _ _ z => z.elim))⟩⟩
    · exact s1.elim
  · exact s1.elim
theorem rep_kt {p : Addr} {ds : List D} {vs : List V} (t : KTup K p vs) (r : ∀ w, RepL K w ds vs) : ∀ w, RepV K w (.tup ds) (.ref p) := fun w => by
  unfold RepV
  exact ⟨p, vs, rfl, t.sq _, r w⟩
theorem se_kd {d : Addr} {tab : Str → Option Str} (ht : ∀ z y, tab z = some y → ∃ u, PySem.W.nsIn K d z = some (some u) ∧ RelV (.str y) u) (ha : SimE K Φ W ta a) : SimE K Φ W (tOp (zKd K d) (tC (.ref d)) ta) (mOp1 (oKd tab) a) := by
  intro w σ env Q ok φ sl s
  refine ha.go ok φ sl s fun w1 x v n1 ok1 φ1 sl1 r1 s1 => ?_
  obtain ⟨y, h', e, p⟩ := ofP_sat s1
  unfold oKd at e
  split at e
  · obtain ⟨z, ez, e2⟩ := Option.map_eq_some_iff.mp e
    cases e2
    cases rs r1
    obtain ⟨u, h1, h2⟩ := ht _ _ ez
    exact ⟨⟨rfl, u, _, h1, h2, p _ _ _ n1 ws⟩⟩
  · cases e
/-! kins are made -/
def ExtH (H H' : Hp) : Prop := ∀ p o, H p = some o → H' p = some o
def badKinF (u d : Int) (s : Str) : List (Str × V) := [("side", .str s), ("down", .int d), ("up", .int u), ("reason", .str "bad kin")]
def spKinX (K : PySem.W.Frag) : Sp := fun vs H Q E => ∃ (x dx : Addr) (u d : Int) (s : Str), vs = [.ref x, .int u, .int d, .str s] ∧ H x = some (.ins (kinC K) dx []) ∧
  (okKinD u d s → ∀ H1, ExtH H H1 → Q .non (upd H1 x (.ins (kinC K) dx (kinF u d s)))) ∧ (¬ okKinD u d s → ∀ H1, ExtH H H1 → ∀ e, H1 e = none → E (.ref (He.ga K "BadKin")) (some e) (upd H1 e (.xd (badKinF u d s))))
theorem nx_ext {w : Wd} (ok : w.Ok K) {H' : Hp} (e : ExtH w.H H') : Nx K w ⟨w.ρ, w.h, H'⟩ := by
  refine ⟨⟨ok.inj, fun a u h => ?_⟩, Nat.le_refl _, fun _ _ => rfl, fun q u h _ => e q u h, fun a h1 h2 => absurd h2 (Nat.not_lt.mpr h1)⟩
  exact RepO.keep (w := w) (w' := ⟨w.ρ, w.h, H'⟩) (Nat.le_refl _) (fun _ _ => rfl) (fun _ _ h _ => e _ _ h) (ok.obj a u h) fun _ h => e _ _ h
theorem se_kin (ht : SimA K Φ W t m) : SimE K Φ W (zMake (kinC K) (spKinX K) W t) (mKin m) := by
  intro w σ env Q ok φ sl s
  refine ht.go ok φ sl s fun w1 ds v n1 ok1 φ1 sl1 r1 s1 => ?_
  unfold kKin at s1
  split at s1
  · rename_i u d z
    obtain ⟨v1, vs1, rfl, q1, t1⟩ := rl1 r1
    obtain ⟨v2, vs2, rfl, q2, t2⟩ := rl1 t1
    obtain ⟨v3, vs3, rfl, q3, t3⟩ := rl1 t2
    cases rl0 t3
    cases ri q1
    cases ri q2
    cases rs q3
    refine ⟨fun x dx nx nd xd => ?_⟩
    have nA := nx_fz (o := .own x) ok1 nd
    have nx' : (w1.fz dx (.own x)).H x = none := by
      show upd w1.H dx (.own x) x = none
      rw [upd_ne xd.symm]
      exact nx
    refine ⟨x, dx, u, d, z, rfl, upd_same, fun okk H1 e1 => ⟨rfl, ?_⟩, fun nok H1 e1 e ne => ?_⟩
    · rw [if_pos okk] at s1
      have e1' : ExtH (w1.fz dx (.own x)).H (upd H1 x (.ins (kinC K) dx (kinF u d z))) := fun p o h => by
        have hp : p ≠ x := fun q => by rw [q, nx'] at h; cases h
        rw [upd_ne hp]
        exact e1 p o (by rw [upd_ne hp]; exact h)
      have nB := nx_ext nA.ok e1'
      refine s1 _ _ _ ((n1.trans nA).trans nB) ?_
      unfold RepV
      exact ⟨x, dx, rfl, upd_same⟩
    · rw [if_neg nok] at s1
      have nB := nx_fz (o := .ins (kinC K) dx []) nA.ok nx'
      have nC := nx_ext (w := (w1.fz dx (.own x)).fz x (.ins (kinC K) dx [])) nB.ok e1
      have nD := nx_fz (w := ⟨w1.ρ, w1.h, H1⟩) (o := .xd (badKinF u d z)) nC.ok ne
      exact s1 _ _ _ _ (((nA.trans nB).trans nC).trans nD) ⟨rfl, e, _, rfl, upd_same, ⟨_, _, rfl, ws, _, _, rfl, wi, _, _, rfl, wi, _, _, rfl, ws, rfl⟩⟩
  · exact s1.elim
end
/-! ### behind the law -/
def lawW (ns : List Int) : Wd := ⟨fun _ => 0, [], fun _ => none⟩
def spLawM (K : PySem.W.Frag) : Sp := fun vs H Q _ => ∃ (a : Addr) (ns : List Int), vs = [.ref a] ∧ FzL K H a (ns.map V.int) ∧ ns.length ≤ 63 ∧ ∀ H', Q (.bl true) H'
theorem law_sp {K : PySem.W.Frag} {f : FM} (hl : ∀ ns : List Int, ns.length ≤ 63 → ∃ h', f [.scr (ns.map D.int)] [] = .ok (.bl true) h') {vs : List V} {H : Hp} {Q : VK} {E : XK} (h : spLawM K vs H Q E) : spM K f 1 vs H Q E := by
  obtain ⟨a, ns, rfl, hS, hn, hQ⟩ := h
  refine ⟨rfl, ⟨fun _ => 0, [], H⟩, [.scr (ns.map D.int)], rfl, ⟨fun a b h => absurd h (Nat.not_lt_zero _), fun a o h => by simp at h⟩, wl1 ?_ wl0, ?_⟩
  · unfold RepV
    exact ⟨a, _, rfl, hS, RepL.ints⟩
  · obtain ⟨h', e⟩ := hl ns hn
    show (f _ []).sat _ _
    rw [e]
    intro ρ v H' n r
    cases rb r
    exact hQ H'
theorem fzl_of {K : PySem.W.Frag} {H : Hp} {a : Addr} {vs : List V} (ho : Only H) (h : SqL K H a vs) : FzL K H a vs := by
  rcases h with (h | h) | h
  · rcases ho a with z | ⟨o, xs, z⟩
    · rw [h] at z
      cases z
    · rw [h] at z
      cases z
  · exact .inl h
  · exact .inr h
end M

/-! M6: ends -/
namespace M
open PySem PySem.Spec PyProof.Rows L2 Z
section
variable {K : PySem.W.Frag} {Φ : Ph K} {W : WX} {ta : TE} {a : EM}
theorem tt_ok {j : Nat} : (Ph.tt K).ok j := trivial
theorem er_ok {x : Er} {i j : Nat} {b : Addr} {cls : Value} {d : Option Addr} (h : Φ.ok j) (n : j ≠ i) : (Φ.er x i b cls d).ok j := ⟨h, n⟩
theorem sim_none : SimO K Φ W tNoPart mNone := fun w σ env Q ok φ sl s => s _ _ (Nx.refl ok)
theorem sim_t (ha : SimE K Φ W ta a) : SimT K Φ W (zT K ta) (mT a) := by
  intro w σ env Q ok φ sl s
  refine ha.go ok φ sl s fun w1 d v n1 ok1 φ1 sl1 r1 s1 => ?_
  obtain ⟨c, e, p⟩ := ofO_sat s1
  have q := p _ _ n1
  have key : ∀ x, RepV K w1 x v → (seqOf w1.h x).map (fun xs => !xs.isEmpty) = some c → zTru K v w1.H Q := fun x rx e => by
    obtain ⟨xs, e1, e2⟩ := Option.map_eq_some_iff.mp e
    obtain ⟨pp, bb, us, ev, sq, rl, _⟩ := seq_z ok1 e1 rx
    subst ev
    refine ⟨⟨bb, us, sq, ?_⟩⟩
    have e3 : us.isEmpty = xs.isEmpty := by
      have := rl.len
      cases us <;> cases xs <;> first | rfl | simp at this
    rw [e3, e2]
    exact q
  cases d with
  | non => cases rn r1; cases e; exact q
  | bl b => cases rb r1; cases e; exact q
  | int b => cases ri r1; cases e; exact q
  | str y =>
    cases rs r1
    unfold truOf at e
    dsimp only at e
    split at e
    · rename_i hc
      cases e
      exact ⟨hc, q⟩
    · cases e
  | kin u d s => cases e
  | tup ds => exact key _ r1 e
  | scr ds => exact key _ r1 e
  | ref ds => exact key _ r1 e
def w0 (H : Hp) : Wd := ⟨fun _ => 0, [], H⟩
theorem w0_ok {H : Hp} : (w0 H).Ok K := ⟨fun a b h => absurd h (Nat.not_lt_zero _), fun a o h => by simp [w0] at h⟩
end
section
variable {P : Program} {w : World} {K : PySem.W.Frag} {mg : Str → Option Value} {base : Heap} {k n np : Nat} {f : Addr} {fd : FuncData} {ps N : List Str} {sp sp' : Sp}
theorem fn_imp (F : Fn true P w K mg base k f fd ps sp) (i : ∀ vs H Q E, sp' vs H Q E → sp vs H Q E) : Fn true P w K mg base k f fd ps sp' := by
  have F' : FnOk P w K mg base (L2N.CX P w) k f fd ps sp := F
  exact ⟨fun vs H Q E h => F'.len vs H Q E (i _ _ _ _ h), fun A outer s H args us vs Q E hr h0 hb hv hs => F'.run A outer s H args us vs Q E hr h0 hb hv (i _ _ _ _ hs)⟩
theorem fnm_mk {m : Bool} {x qual : Str} {params : Arguments} {body : List Stmt} {scope : Scope} {bm : SM} (F : FunD K x qual params body scope [] [] f fd) (S : FnScope N ps scope) (hN : N.length = n) (hnp : ps.length = np)
    (hbody : ∀ (cdv : Value) (A : Around) (outer : List Env) (s : Shared) (H : Hp) (E : XK) (pn : List (Addr × Obj)), Cz m (bodyCx m P w K mg base N qual scope f cdv A outer s H E pn) (fun cls d _ H => E cls d H) k →
      ∃ t, PSs (bodyCx m P w K mg base N qual scope f cdv A outer s H E pn) body t ∧ SimS K (Ph.tt K) (fun cls d _ H => E cls d H) t bm) : Fn m P w K mg base (k + 1) f fd ps (spM K (mFun n np bm) np) := by
  refine fn_mk F S (fun vs H Q E q => q.1.trans hnp.symm) fun cdv A outer s H vs Q E pn cz hsp => ?_
  obtain ⟨t, h1, h2⟩ := hbody cdv A outer s H E pn cz
  exact ⟨t, h1, body_ok hN h2 hsp⟩
theorem gfn_never {m : Bool} {x qual : Str} {params : Arguments} {body : List Stmt} {scope : Scope} (hF : ∃ fd, FunD K x qual params body scope [] [] f fd) (hm : mg x = some (.ref f)) (S : FnScope N ps scope)
    (hb : ∀ (kV doc pm : Value) (an : Option Addr) (cdv ct : Value) (us : List Value), us.length = ps.length → bindArgs (PySem.W.fnOf x qual params body scope .none kV doc pm an cdv ct) ⟨us, []⟩ = pure (ps.zip us)) :
    GFn m P w K mg base (k + 1) x ps (spM K (fun _ _ => .no) np) :=
  gfn_mk hF hm S hb (fun vs H Q E q => by obtain ⟨_, w, ds, _, _, _, s⟩ := q; exact s.elim) (fun _ _ _ _ _ _ _ _ _ _ q => by obtain ⟨_, w, ds, _, _, _, s⟩ := q; exact s.elim)
end
end M

/-! M7: what is told of the data: evaluation, loops, the heap -/
namespace M
open PySem PySem.Spec PyProof.Rows L2 Z
/-- what follows is walked once -/
theorem zcut {t u : TS} {D : Ends} {σ : L2.St} {H : Hp} (C : L2.St → Hp → Prop) (h2 : ∀ σ' H', C σ' H' → u D σ' H') (h1 : ∀ U : L2.St → Hp → Prop, (∀ σ' H', C σ' H' → U σ' H') → t { D with nx := U } σ H) : tSeq t u D σ H := h1 (u D) h2
section
variable {α β : Type} {r r' : Rs α} {k : α → Mh → Rs β} {P : α → Mh → Prop} {Q : β → Mh → Prop} {E : Er → Mv → Mh → Prop} {h : Mh} {env : Mv}
theorem bind_ok {a : α} : (Rs.ok a h).bind k = k a h := rfl
theorem bind_er {x : Er} {e : Mv} : (Rs.er x e h : Rs α).bind k = .er x e h := rfl
theorem bind_bind {γ : Type} {j : β → Mh → Rs γ} : (r.bind k).bind j = r.bind fun a h => (k a h).bind j := by cases r <;> rfl
theorem at_ok {a : α} {e : Mv} : (Rs.ok a h).at e = .ok a h := rfl
theorem at_er {x : Er} {e v : Mv} : (Rs.er x v h : Rs α).at e = .er x e h := rfl
theorem ne_ok {a : α} : (Rs.ok a h).ne = .ok a h := rfl
theorem ofP_some {a : α} : Rs.ofP (some (a, h)) = .ok a h := rfl
theorem ofO_some {a : α} : Rs.ofO (some a) h = .ok a h := rfl
theorem sat_ok {a : α} : (Rs.ok a h).sat P E ↔ P a h := Iff.rfl
theorem sat_er {x : Er} {v : Mv} : (Rs.er x v h : Rs α).sat P E ↔ E x v h := Iff.rfl
theorem sat_ite {c : Prop} [Decidable c] (t : c → r.sat P E) (f : ¬ c → r'.sat P E) : (if c then r else r').sat P E := by
  split
  · exact t ‹_›
  · exact f ‹_›
theorem sat_bind2 (s : r.sat (fun a h => (k a h).sat Q E) E) : (r.bind k).sat Q E := Rs.sat_bind.mpr s
theorem sat_cut (M : α → Mh → Prop) (s : r.sat M E) (g : ∀ a h, M a h → (k a h).sat Q E) : (r.bind k).sat Q E := Rs.sat_bind.mpr (s.mono g fun _ _ _ z => z)
theorem sat_at2 (s : r.sat P fun x _ h => E x env h) : (r.at env).sat P E := Rs.sat_at.mpr s
/-- an answer, by what is told of it -/
theorem ok_of_sat {d : α} (s : r.sat (fun x _ => x = d) fun _ _ _ => False) : ∃ h', r = .ok d h' := by
  cases r with
  | ok a h => cases s; exact ⟨h, rfl⟩
  | er x e h => exact s.elim
  | no => exact s.elim
theorem sat_of_ok {a : α} (e : r = .ok a h) (p : P a h) : r.sat P E := by rw [e]; exact p
end
/-! ### slots -/
theorem var_0 {d : D} {e : Mv} {h : Mh} : mVar 0 (some d :: e) h = .ok d h := rfl
theorem var_s {i : Nat} {o : Option D} {e : Mv} {h : Mh} : mVar (i + 1) (o :: e) h = mVar i e h := rfl
/-! ### the heap -/
theorem lst_lt {h : Mh} {a : Nat} {ds : List D} (e : lstAt h a = some ds) : a < h.length := by
  unfold lstAt at e
  split at e
  · rename_i x
    exact (List.getElem?_eq_some_iff.mp x).1
  · cases e
theorem lst_at {h : Mh} {a : Nat} {ds : List D} (e : lstAt h a = some ds) : h[a]? = some (.lst ds) := by
  unfold lstAt at e
  split at e
  · rename_i x
    cases e
    exact x
  · cases e
theorem at_lst {h : Mh} {a : Nat} {ds : List D} (e : h[a]? = some (.lst ds)) : lstAt h a = some ds := by
  unfold lstAt
  rw [e]
theorem lst_set {h : Mh} {a : Nat} {ds : List D} (l : a < h.length) : lstAt (h.set a (.lst ds)) a = some ds := at_lst (List.getElem?_set_self l)
theorem lst_set_ne {h : Mh} {a b : Nat} {mo : MO} (l : b ≠ a) : lstAt (h.set b mo) a = lstAt h a := by
  unfold lstAt
  rw [List.getElem?_set_ne l]
theorem lst_app {h g : Mh} {a : Nat} (l : a < h.length) : lstAt (h ++ g) a = lstAt h a := by
  unfold lstAt
  rw [List.getElem?_append_left l]
theorem lst_new {h : Mh} {ds : List D} : lstAt (h ++ [.lst ds]) h.length = some ds := at_lst (by simp)
/-- nothing that stood has changed, but at S -/
structure Fr (S : Nat → Prop) (h h' : Mh) : Prop where
  le : h.length ≤ h'.length
  kp : ∀ a, a < h.length → ¬ S a → h'[a]? = h[a]?
theorem Fr.refl {S : Nat → Prop} {h : Mh} : Fr S h h := ⟨Nat.le_refl _, fun _ _ _ => rfl⟩
theorem Fr.trans {S : Nat → Prop} {h h' h'' : Mh} (x : Fr S h h') (y : Fr S h' h'') : Fr S h h'' := ⟨Nat.le_trans x.le y.le, fun a l n => (y.kp a (Nat.lt_of_lt_of_le l x.le) n).trans (x.kp a l n)⟩
theorem Fr.mono {S T : Nat → Prop} {h h' : Mh} (x : Fr S h h') (i : ∀ a, S a → T a) : Fr T h h' := ⟨x.le, fun a l n => x.kp a l fun z => n (i a z)⟩
theorem Fr.app {S : Nat → Prop} {h g : Mh} : Fr S h (h ++ g) := ⟨by simp, fun a l _ => List.getElem?_append_left l⟩
theorem Fr.set {S : Nat → Prop} {h : Mh} {a : Nat} {mo : MO} (s : S a) : Fr S h (h.set a mo) := ⟨by simp, fun b _ n => List.getElem?_set_ne fun e => n (by rw [← e]; exact s)⟩
theorem Fr.lst {S : Nat → Prop} {h h' : Mh} (x : Fr S h h') {a : Nat} {ds : List D} (e : lstAt h a = some ds) (n : ¬ S a) : lstAt h' a = some ds := at_lst ((x.kp a (lst_lt e) n).trans (lst_at e))
theorem Fr.at {S : Nat → Prop} {h h' : Mh} (x : Fr S h h') {a : Nat} {o : MO} (e : h[a]? = some o) (n : ¬ S a) : h'[a]? = some o := (x.kp a (List.getElem?_eq_some_iff.mp e).1 n).trans e
abbrev noS : Nat → Prop := fun _ => False
abbrev atS (q : Nat) : Nat → Prop := fun a => a = q
/-! ### loops -/
def LoopP (I : Nat → Mv → Mh → Prop) (P : So → Mh → Prop) (i : Nat) : So → Mh → Prop
  | .nx e, h => I (i + 1) e h
  | .ct e, h => I (i + 1) e h
  | .bk e, h => P (.nx e) h
  | .rt d, h => P (.rt d) h
theorem loop_inv {a : Option Nat} {all ds : List D} {g : GM} {body : SM} {env : Mv} {h : Mh} {P : So → Mh → Prop} {E : Er → Mv → Mh → Prop} (I : Nat → Mv → Mh → Prop) (hl : ∀ i e h, I i e h → ∀ b, a = some b → lstAt h b = some all) (hi : I 0 env h)
    (hs : ∀ i d e h, ds[i]? = some d → I i e h → (g d e h).sat (fun e1 h1 => (body e1 h1).sat (LoopP I P i) E) E) (hd : ∀ e h, I ds.length e h → P (.nx e) h) : (mLoop a all g body ds env h).sat P E := by
  have key : ∀ (l : List D) (i : Nat), i + l.length = ds.length → ds.drop i = l → ∀ e h, I i e h → (mLoop a all g body l e h).sat P E := by
    intro l
    induction l with
    | nil =>
      intro i hil _ e h hI
      unfold mLoop
      rw [if_pos (hl i e h hI)]
      have : i = ds.length := by simpa using hil
      subst this
      exact hd _ _ hI
    | cons d l ih =>
      intro i hil hdr e h hI
      unfold mLoop
      rw [if_pos (hl i e h hI)]
      have hi : ds[i]? = some d := by
        have := congrArg (fun x => x[0]?) hdr
        simpa using this
      have hdr2 : ds.drop (i + 1) = l := by
        have := congrArg (List.drop 1) hdr
        simpa [List.drop_drop] using this
      refine Rs.sat_bind.mpr ((hs i d e h hi hI).mono (fun e1 h1 p => ?_) fun _ _ _ z => z)
      refine Rs.sat_bind.mpr (p.mono (fun o h2 p2 => ?_) fun _ _ _ z => z)
      cases o with
      | nx e2 => exact ih (i + 1) (by rw [List.length_cons] at hil; omega) hdr2 e2 h2 p2
      | ct e2 => exact ih (i + 1) (by rw [List.length_cons] at hil; omega) hdr2 e2 h2 p2
      | bk e2 => exact p2
      | rt d2 => exact p2
  exact key ds 0 (by simp) (by simp) env h hi
/-- a range that is walked -/
theorem loop_rng {n : Nat} {all : List D} {g : GM} {body : SM} {env : Mv} {h : Mh} {P : So → Mh → Prop} {E : Er → Mv → Mh → Prop} (I : Nat → Mv → Mh → Prop) (hi : I 0 env h)
    (hs : ∀ (i : Nat) e h, i < n → I i e h → (g (.int (i : Int)) e h).sat (fun e1 h1 => (body e1 h1).sat (LoopP I P i) E) E) (hd : ∀ e h, I n e h → P (.nx e) h) : (mLoop none all g body ((List.range n).map fun k => .int (k : Nat)) env h).sat P E := by
  refine loop_inv I (fun _ _ _ _ b e => by cases e) hi (fun i d e h hd hI => ?_) fun e h hI => hd e h (by simpa using hI)
  rw [List.getElem?_map] at hd
  obtain ⟨k, ek, rfl⟩ := Option.map_eq_some_iff.mp hd
  obtain ⟨hk, ek⟩ := List.getElem?_eq_some_iff.mp ek
  rw [List.getElem_range] at ek
  subst ek
  exact hs i e h (by simpa using hk) hI
theorem loop_nil {all : List D} {g : GM} {body : SM} {env : Mv} {h : Mh} : mLoop none all g body [] env h = .ok (.nx env) h := by
  unfold mLoop
  rw [if_pos fun b e => by cases e]
theorem loop_cons {all ds : List D} {d : D} {g : GM} {body : SM} {env : Mv} {h : Mh} : mLoop none all g body (d :: ds) env h = (g d env h).bind (kLoop body (mLoop none all g body ds)) := by
  rw [mLoop, if_pos fun b e => by cases e]
theorem loop_nil_at {a : Nat} {all : List D} {g : GM} {body : SM} {env : Mv} {h : Mh} (e : lstAt h a = some all) : mLoop (some a) all g body [] env h = .ok (.nx env) h := by
  unfold mLoop
  rw [if_pos fun b z => by cases z; exact e]
theorem loop_cons_at {a : Nat} {all ds : List D} {d : D} {g : GM} {body : SM} {env : Mv} {h : Mh} (e : lstAt h a = some all) : mLoop (some a) all g body (d :: ds) env h = (g d env h).bind (kLoop body (mLoop (some a) all g body ds)) := by
  rw [mLoop, if_pos fun b z => by cases z; exact e]
theorem whileN_le {c : BM} {body : SM} : ∀ {n m : Nat} {env : Mv} {h : Mh}, whileN c body n env h ≠ .no → n ≤ m → whileN c body m env h = whileN c body n env h
  | 0, _, _, _, h, _ => (h rfl).elim
  | n + 1, 0, _, _, _, l => absurd l (by omega)
  | n + 1, m + 1, env, h, hn, l => by
    unfold whileN at hn ⊢
    cases hc : (c env h).at env with
    | ok b h1 =>
      rw [hc] at hn
      show (if b = true then _ else _) = (if b = true then _ else _)
      have hn' : (if b = true then (body env h1).bind (goOn (whileN c body n)) else Rs.ok (So.nx env) h1) ≠ .no := hn
      by_cases hb : b = true
      · rw [if_pos hb] at hn' ⊢
        rw [if_pos hb]
        cases hbd : body env h1 with
        | ok o h2 =>
          rw [hbd] at hn'
          cases o with
          | nx e => exact whileN_le (show whileN c body n e h2 ≠ .no from hn') (by omega)
          | ct e => exact whileN_le (show whileN c body n e h2 ≠ .no from hn') (by omega)
          | bk e => rfl
          | rt d => rfl
        | er x e h2 => rfl
        | no => rfl
      · rw [if_neg hb, if_neg hb]
    | er x e h1 => rfl
    | no => rfl
theorem sWhile_eq {c : BM} {body : SM} {n : Nat} {env : Mv} {h : Mh} (hn : whileN c body n env h ≠ .no) : sWhile c body env h = whileN c body n env h := by
  unfold sWhile
  have hh : ∃ n, whileN c body n env h ≠ .no := ⟨n, hn⟩
  rw [dif_pos hh]
  have h1 := Classical.choose_spec hh
  rcases Nat.le_total n (Classical.choose hh) with l | l
  · exact whileN_le hn l
  · exact (whileN_le h1 l).symm
/-- a while, by a word and a number that falls -/
theorem while_inv {c : BM} {body : SM} {env : Mv} {h : Mh} {P : So → Mh → Prop} {E : Er → Mv → Mh → Prop} (I : Nat → Mv → Mh → Prop) (n : Nat) (hi : I n env h)
    (hs : ∀ n e h, I n e h → ((c e h).at e).sat (fun b h1 => if b = true then (body e h1).sat (fun o h2 => match o with
      | .nx e => ∃ m, m < n ∧ I m e h2
      | .ct e => ∃ m, m < n ∧ I m e h2
      | .bk e => P (.nx e) h2
      | .rt d => P (.rt d) h2) E else P (.nx e) h1) E) : (sWhile c body env h).sat P E := by
  have key : ∀ n e h, I n e h → ∃ k, (whileN c body k e h).sat P E := by
    intro n
    induction n using Nat.strongRecOn with
    | ind n ih =>
      intro e h hI
      have s := hs n e h hI
      cases hc : (c e h).at e with
      | no => rw [hc] at s; exact s.elim
      | er x v h1 =>
        rw [hc] at s
        refine ⟨1, ?_⟩
        unfold whileN
        rw [hc]
        exact s
      | ok b h1 =>
        rw [hc] at s
        have s' : if b = true then (body e h1).sat (fun o h2 => match o with
            | .nx e => ∃ m, m < n ∧ I m e h2
            | .ct e => ∃ m, m < n ∧ I m e h2
            | .bk e => P (.nx e) h2
            | .rt d => P (.rt d) h2) E else P (.nx e) h1 := s
        by_cases hb : b = true
        · rw [if_pos hb] at s'
          cases hbd : body e h1 with
          | no => rw [hbd] at s'; exact s'.elim
          | er x v h2 =>
            rw [hbd] at s'
            refine ⟨1, ?_⟩
            unfold whileN
            rw [hc]
            show (if b = true then _ else _ : Rs So).sat P E
            rw [if_pos hb, hbd]
            exact s'
          | ok o h2 =>
            rw [hbd] at s'
            have fin : ∀ k, (goOn (whileN c body k) o h2).sat P E → (whileN c body (k + 1) e h).sat P E := fun k z => by
              unfold whileN
              rw [hc]
              show (if b = true then _ else _ : Rs So).sat P E
              rw [if_pos hb, hbd]
              exact z
            cases o with
            | nx e2 =>
              obtain ⟨m, hm, hI2⟩ := s'
              obtain ⟨k, hk⟩ := ih m hm e2 h2 hI2
              exact ⟨k + 1, fin k hk⟩
            | ct e2 =>
              obtain ⟨m, hm, hI2⟩ := s'
              obtain ⟨k, hk⟩ := ih m hm e2 h2 hI2
              exact ⟨k + 1, fin k hk⟩
            | bk e2 => exact ⟨1, fin 0 s'⟩
            | rt d => exact ⟨1, fin 0 s'⟩
        · rw [if_neg hb] at s'
          refine ⟨1, ?_⟩
          unfold whileN
          rw [hc]
          show (if b = true then _ else _ : Rs So).sat P E
          rw [if_neg hb]
          exact s'
  obtain ⟨k, hk⟩ := key n env h hi
  rw [sWhile_eq (n := k) fun z => by rw [z] at hk; exact hk]
  exact hk
end M
namespace M
open PySem PySem.Spec PyProof.Rows L2 Z
section
variable {α : Type} {xs : List α}
theorem ixN_nat {n k : Nat} : ixN n ((k : Nat) : Int) = if k < n then some k else none := by
  unfold ixN
  rw [if_pos (by omega)]
  by_cases h : k < n
  · rw [if_pos (by omega), if_pos h]
    rfl
  · rw [if_neg (by omega), if_neg h]
theorem atI_nt {k : Nat} : atI xs ((k : Nat) : Int) = xs[k]? := by
  unfold atI
  rw [ixN_nat]
  by_cases h : k < xs.length
  · rw [if_pos h]; rfl
  · rw [if_neg h, List.getElem?_eq_none (by omega)]; rfl
theorem ix0 : atI xs 0 = xs[0]? := atI_nt (k := 0)
theorem ix1 : atI xs 1 = xs[1]? := atI_nt (k := 1)
theorem ix2 : atI xs 2 = xs[2]? := atI_nt (k := 2)
theorem ix3 : atI xs 3 = xs[3]? := atI_nt (k := 3)
theorem ix4 : atI xs 4 = xs[4]? := atI_nt (k := 4)
theorem ix5 : atI xs 5 = xs[5]? := atI_nt (k := 5)
theorem ix6 : atI xs 6 = xs[6]? := atI_nt (k := 6)
theorem ix7 : atI xs 7 = xs[7]? := atI_nt (k := 7)
theorem jx0 {n : Nat} : ixN n 0 = if 0 < n then some 0 else none := ixN_nat (k := 0)
theorem jx1 {n : Nat} : ixN n 1 = if 1 < n then some 1 else none := ixN_nat (k := 1)
theorem jx2 {n : Nat} : ixN n 2 = if 2 < n then some 2 else none := ixN_nat (k := 2)
theorem jx3 {n : Nat} : ixN n 3 = if 3 < n then some 3 else none := ixN_nat (k := 3)
theorem jx4 {n : Nat} : ixN n 4 = if 4 < n then some 4 else none := ixN_nat (k := 4)
theorem jx5 {n : Nat} : ixN n 5 = if 5 < n then some 5 else none := ixN_nat (k := 5)
theorem ixm {k : Nat} (h : xs ≠ []) : atI xs (-1) = xs[xs.length - 1]? := by
  have hl : 0 < xs.length := List.length_pos_iff.mpr h
  unfold atI ixN
  rw [if_neg (by decide), if_pos (by omega)]
  show xs[((-1 : Int) + xs.length).toNat]? = _
  congr 1
  omega
end
theorem lst_lit {h : Mh} {a : Nat} {ds : List D} (e : lstAt h a = some ds) : seqOf h (.ref a) = some ds := e
end M
namespace M
open PySem PySem.Spec PyProof.Rows L2 Z
/-! ### what an operation gives, step by step -/
def ixD (o : Option D) (h : Mh) : Option (D × Mh) := match o with
  | some d => some (d, h)
  | none => none
def ixAt (o : Option (List D)) (i : Int) (h : Mh) : Option (D × Mh) := match o with
  | some xs => ixD (atI xs i) h
  | none => none
def slAt (o : Option (List D)) (lo hi : Option Int) (h : Mh) : Option (D × Mh) := match o with
  | some xs => some (.ref h.length, h ++ [.lst (cutD xs lo hi)])
  | none => none
def lenAt (o : Option (List D)) (h : Mh) : Option (D × Mh) := match o with
  | some xs => some (.int xs.length, h)
  | none => none
def newAt (o : Option (List D)) (h : Mh) : Option (D × Mh) := match o with
  | some xs => some (.ref h.length, h ++ [.lst xs])
  | none => none
def appAt (o : Option (List D)) (a : Nat) (y : D) (h : Mh) : Option (D × Mh) := match o with
  | some xs => if xs.length < sizeLine then some (.non, h.set a (.lst (xs ++ [y]))) else none
  | none => none
def popB (o : Option D) (a : Nat) (xs : List D) (h : Mh) : Option (D × Mh) := match o with
  | some y => some (y, h.set a (.lst xs.dropLast))
  | none => none
def popAt (o : Option (List D)) (a : Nat) (h : Mh) : Option (D × Mh) := match o with
  | some xs => popB (xs[xs.length - 1]?) a xs h
  | none => none
def revAt (o : Option (List D)) (a : Nat) (h : Mh) : Option (D × Mh) := match o with
  | some xs => some (.non, h.set a (.lst xs.reverse))
  | none => none
def setB (o : Option Nat) (a : Nat) (xs : List D) (v : D) (h : Mh) : Option Mh := match o with
  | some j => some (h.set a (.lst (xs.set j v)))
  | none => none
def setAt (o : Option (List D)) (a : Nat) (k : Int) (v : D) (h : Mh) : Option Mh := match o with
  | some xs => setB (ixN xs.length k) a xs v h
  | none => none
def catAt (o p : Option (List D)) (h : Mh) : Option (D × Mh) := match o, p with
  | some xs, some ys => if xs.length + ys.length ≤ sizeLine then some (.ref h.length, h ++ [.lst (xs ++ ys)]) else none
  | _, _ => none
def blO (o : Option Bool) (h : Mh) : Option (D × Mh) := match o with
  | some b => some (.bl b, h)
  | none => none
def blN (o : Option Bool) (h : Mh) : Option (D × Mh) := match o with
  | some b => some (.bl (!b), h)
  | none => none
def inAt (x : Option V) (o : Option (List D)) : Option Bool := match x, o with
  | some v, some xs => (xs.mapM scD).map fun vs => inV v vs
  | _, _ => none
def emptyAt (o : Option (List D)) : Option Bool := match o with
  | some xs => some (!xs.isEmpty)
  | none => none
def imL (o : Option (List D)) (a : Nat) (h : Mh) : Rs Im := match o with
  | some ds => .ok ⟨some a, ds⟩ h
  | none => .no
section
variable {i j : Int} {a b : Nat} {x y z : D} {s t : Str} {p q : Bool} {ds es : List D} {h : Mh} {lo hi : Option Int} {mo : MO} {C : String} {fs : List (String × D)}
theorem e_add_i : oAdd (.int i) (.int j) h = some (.int (i + j), h) := rfl
theorem e_add_s : oAdd (.str s) (.str t) h = if s.length + t.length ≤ sizeLine then some (.str (s ++ t), h) else none := rfl
theorem e_add_l : oAdd (.ref a) (.ref b) h = catAt (lstAt h a) (lstAt h b) h := by
  unfold oAdd lstAt
  dsimp only
  cases h[a]? with
  | none => rfl
  | some o => cases o <;> cases h[b]? with
    | none => rfl
    | some u => cases u <;> rfl
theorem e_sub : oSub (.int i) (.int j) h = some (.int (i - j), h) := rfl
theorem e_mul : oMul (.int i) (.int j) h = if CMul i j then some (.int (i * j), h) else none := by
  show (if decide (CMul i j) = true then some (D.int (i * j), h) else none) = _
  by_cases c : CMul i j
  · rw [decide_eq_true c, if_pos rfl, if_pos c]
  · rw [decide_eq_false c, if_neg (by decide), if_neg c]
theorem e_fdv : oFdv (.int i) (.int j) h = if CDivW i j then some (.int (i / j), h) else none := by
  show (if decide (CDivW i j) = true then some (D.int (i / j), h) else none) = _
  by_cases c : CDivW i j
  · rw [decide_eq_true c, if_pos rfl, if_pos c]
  · rw [decide_eq_false c, if_neg (by decide), if_neg c]
theorem e_mod : oMod (.int i) (.int j) h = if 0 < j then some (.int (i % j), h) else none := by
  show (if decide (0 < j) = true then some (D.int (i % j), h) else none) = _
  by_cases c : 0 < j
  · rw [decide_eq_true c, if_pos rfl, if_pos c]
  · rw [decide_eq_false c, if_neg (by decide), if_neg c]
theorem e_pow : oPow (.int i) (.int j) h = if CPow i j then some (.int (i ^ j.toNat), h) else none := by
  show (if decide (CPow i j) = true then some (D.int (i ^ j.toNat), h) else none) = _
  by_cases c : CPow i j
  · rw [decide_eq_true c, if_pos rfl, if_pos c]
  · rw [decide_eq_false c, if_neg (by decide), if_neg c]
theorem e_lt : oLt (.int i) (.int j) h = some (.bl (decide (i < j)), h) := rfl
theorem e_le : oLe (.int i) (.int j) h = some (.bl (decide (i ≤ j)), h) := rfl
theorem e_gt : oGt (.int i) (.int j) h = some (.bl (decide (j < i)), h) := rfl
theorem e_ge : oGe (.int i) (.int j) h = some (.bl (decide (j ≤ i)), h) := rfl
theorem e_eq_i : oEq (.int i) (.int j) h = some (.bl (decide (i = j)), h) := rfl
theorem e_eq_s : oEq (.str s) (.str t) h = some (.bl (decide (s = t)), h) := rfl
theorem e_eq_b : oEq (.bl p) (.bl q) h = some (.bl (decide (p = q)), h) := rfl
theorem e_eq_nn : oEq .non .non h = some (.bl true, h) := rfl
theorem e_eq_ni : oEq .non (.int i) h = some (.bl false, h) := rfl
theorem e_eq_in : oEq (.int i) .non h = some (.bl false, h) := rfl
theorem e_eq_sn : oEq (.str s) .non h = some (.bl false, h) := rfl
theorem e_eq_ns : oEq .non (.str s) h = some (.bl false, h) := rfl
theorem e_eq_is : oEq (.int i) (.str s) h = some (.bl false, h) := rfl
theorem e_eq_si : oEq (.str s) (.int i) h = some (.bl false, h) := rfl
theorem e_ne_i : oNe (.int i) (.int j) h = some (.bl (!decide (i = j)), h) := rfl
theorem e_ne_s : oNe (.str s) (.str t) h = some (.bl (!decide (s = t)), h) := rfl
theorem e_ne_b : oNe (.bl p) (.bl q) h = some (.bl (!decide (p = q)), h) := rfl
theorem e_ne_ni : oNe .non (.int i) h = some (.bl true, h) := rfl
theorem e_ne_in : oNe (.int i) .non h = some (.bl true, h) := rfl
theorem e_isN : oIsN x .non h = some (.bl (isNon x), h) := rfl
theorem e_isNN : oIsNN x .non h = some (.bl (!isNon x), h) := rfl
theorem isNon_n : isNon .non = true := rfl
theorem isNon_i : isNon (.int i) = false := rfl
theorem isNon_b : isNon (.bl p) = false := rfl
theorem isNon_s : isNon (.str s) = false := rfl
theorem isNon_r : isNon (.ref a) = false := rfl
theorem isNon_t : isNon (.tup ds) = false := rfl
theorem isNon_k {u d : Int} : isNon (.kin u d s) = false := rfl
theorem e_in : oIn x y h = blO (inD h x y) h := by unfold oIn; cases inD h x y <;> rfl
theorem e_notin : oNotIn x y h = blN (inD h x y) h := by unfold oNotIn; cases inD h x y <;> rfl
theorem in_sq (hy : ∀ z, y ≠ .str z) : inD h x y = inAt (scD x) (seqOf h y) := by
  have key : ∀ (o : Option V) (l : Option (List D)), (match o, l.bind fun ys => ys.mapM scD with | some v, some vs => some (inV v vs) | _, _ => none) = inAt o l := fun o l => by
    cases o <;> cases l <;> try rfl
    rename_i v l
    show (match some v, l.mapM scD with | some v, some vs => some (inV v vs) | _, _ => none) = (l.mapM scD).map fun vs => inV v vs
    cases l.mapM scD <;> rfl
  unfold inD
  split
  · rename_i z
    exact (hy z rfl).elim
  · exact key _ _
theorem in_l : inD h x (.ref a) = inAt (scD x) (lstAt h a) := in_sq fun _ e => by cases e
theorem in_t : inD h x (.tup ds) = inAt (scD x) (some ds) := in_sq fun _ e => by cases e
theorem e_neg : oNeg (.int i) h = some (.int (-i), h) := rfl
theorem e_ix_l : oIx (.ref a) (.int i) h = ixAt (lstAt h a) i h := by
  show ((lstAt h a).bind fun xs => (atI xs i).map fun d => (d, h)) = _
  cases lstAt h a with
  | none => rfl
  | some xs =>
    show ((atI xs i).map fun d => (d, h)) = ixD (atI xs i) h
    cases atI xs i <;> rfl
theorem e_ix_t : oIx (.tup ds) (.int i) h = ixD (atI ds i) h := by
  show ((atI ds i).map fun d => (d, h)) = ixD (atI ds i) h
  cases atI ds i <;> rfl
theorem e_ix_c : oIx (.scr ds) (.int i) h = ixD (atI ds i) h := by
  show ((atI ds i).map fun d => (d, h)) = ixD (atI ds i) h
  cases atI ds i <;> rfl
theorem e_ix_s : oIx (.str s) (.int i) h = if s.length ≤ sizeLine then ixD ((atI s.cps.toList i).map fun c => .str ⟨#[c]⟩) h else none := by
  show (if s.length ≤ sizeLine then (atI s.cps.toList i).map fun c => (D.str ⟨#[c]⟩, h) else none) = _
  cases atI s.cps.toList i <;> rfl
theorem e_sl_s : oSlc (.str s) lo hi h = if s.length ≤ sizeLine then some (.str (cutS s lo hi), h) else none := rfl
theorem e_sl_l : oSlc (.ref a) lo hi h = slAt (lstAt h a) lo hi h := by
  unfold oSlc oSl lstAt
  dsimp only
  cases h[a]? with
  | none => rfl
  | some o => cases o <;> rfl
theorem e_sl_t : oSlc (.tup ds) lo hi h = if HT.sIx ds.length 0 lo = 0 ∧ HT.sIx ds.length ds.length hi = ds.length then none else some (.tup (cutD ds lo hi), h) := rfl
theorem e_len_s : oLen [.str s] h = if s.length ≤ sizeLine then some (.int s.length, h) else none := rfl
theorem e_len_l : oLen [.ref a] h = lenAt (lstAt h a) h := by
  show ((lstAt h a).map fun xs => (D.int xs.length, h)) = _
  cases lstAt h a <;> rfl
theorem e_len_t : oLen [.tup ds] h = some (.int ds.length, h) := rfl
theorem e_len_c : oLen [.scr ds] h = some (.int ds.length, h) := rfl
theorem e_int_i : oInt [.int i] h = some (.int i, h) := rfl
theorem e_int_s : oInt [.str s] h = if s.length ≤ 640 then ixD ((PySem.intText? s).map D.int) h else none := by
  show (if s.length ≤ 640 then (PySem.intText? s).map fun n => (D.int n, h) else none) = _
  cases PySem.intText? s <;> rfl
theorem e_str : oStr [.int i] h = if i.natAbs.log2 < 1920 then some (.str (toString i), h) else none := rfl
theorem e_list_l : oList [.ref a] h = newAt (lstAt h a) h := by
  show ((lstAt h a).bind fun xs => newO (.lst xs) h) = _
  cases lstAt h a <;> rfl
theorem e_list_t : oList [.tup ds] h = some (.ref h.length, h ++ [.lst ds]) := rfl
theorem e_list_c : oList [.scr ds] h = some (.ref h.length, h ++ [.lst ds]) := rfl
theorem e_min : oMin [.int i, .int j] h = some (.int (if j < i then j else i), h) := rfl
theorem e_max : oMax [.int i, .int j] h = some (.int (if j > i then j else i), h) := rfl
theorem e_abs : oAbs [.int i] h = some (.int (if i < 0 then -i else i), h) := rfl
theorem e_append : oAppend (.ref a) [y] h = appAt (lstAt h a) a y h := by
  show ((lstAt h a).bind fun xs => if xs.length < sizeLine then some (D.non, h.set a (.lst (xs ++ [y]))) else none) = _
  cases lstAt h a <;> rfl
theorem e_pop : oPop (.ref a) [] h = popAt (lstAt h a) a h := by
  show ((lstAt h a).bind fun xs => (xs[xs.length - 1]?).map fun y => (y, h.set a (.lst xs.dropLast))) = _
  cases lstAt h a with
  | none => rfl
  | some xs =>
    show ((xs[xs.length - 1]?).map fun y => (y, h.set a (.lst xs.dropLast))) = popB (xs[xs.length - 1]?) a xs h
    cases xs[xs.length - 1]? <;> rfl
theorem e_reverse : oReverse (.ref a) [] h = revAt (lstAt h a) a h := by
  show ((lstAt h a).map fun xs => (D.non, h.set a (.lst xs.reverse))) = _
  cases lstAt h a <;> rfl
theorem e_find : oFind (.str s) [.str t] h = some (.int (Txt.find s t), h) := rfl
theorem e_ends : oEnds (.str s) [.str t] h = some (.bl (Txt.endswith s t), h) := rfl
theorem e_starts : oStarts (.str s) [.str t] h = some (.bl (Txt.startswith s t), h) := rfl
theorem e_split : oSplit (.str s) [.str t] h = if (t.length == 0) = false ∧ s.length + 2 ≤ sizeLine then some (.ref h.length, h ++ [.lst ((Txt.split s t).map D.str)]) else none := rfl
theorem e_tup : mkTup ds h = if ds.length ≤ sizeLine then some (.tup ds, h) else none := rfl
theorem e_lst : mkLst ds h = if ds.length ≤ sizeLine then some (.ref h.length, h ++ [.lst ds]) else none := rfl
theorem e_setIx : oSetIx (.ref a) (.int i) y h = setAt (lstAt h a) a i y h := by
  show ((lstAt h a).bind fun xs => (ixN xs.length i).map fun j => h.set a (.lst (xs.set j y))) = _
  cases lstAt h a with
  | none => rfl
  | some xs =>
    show ((ixN xs.length i).map fun j => h.set a (.lst (xs.set j y))) = setB (ixN xs.length i) a xs y h
    cases ixN xs.length i <;> rfl
theorem tru_n : truOf h .non = some false := rfl
theorem tru_b : truOf h (.bl p) = some p := rfl
theorem tru_i : truOf h (.int i) = some (i != 0) := rfl
theorem tru_s : truOf h (.str s) = if s.length ≤ sizeLine then some ((s.length : Int) != 0) else none := rfl
theorem tru_l : truOf h (.ref a) = emptyAt (lstAt h a) := by
  show (lstAt h a).map (fun xs => !xs.isEmpty) = _
  cases lstAt h a <;> rfl
theorem tru_t : truOf h (.tup ds) = some (!ds.isEmpty) := rfl
theorem ty_s : isTy "str" h (.str s) = true := rfl
theorem ty_l : isTy "list" h (.ref a) = (lstAt h a).isSome := rfl
theorem e_isi {tab : Tag → Option Bool} : oIsI tab x h = blO ((tagOf h x).bind tab) h := by
  unfold oIsI
  cases (tagOf h x).bind tab <;> rfl
theorem tag_r (e : lstAt h a = some ds) : tagOf h (.ref a) = some (.b .list) := by
  have := lst_at e
  unfold tagOf
  dsimp only
  rw [this]
theorem tag_n : tagOf h .non = some (.b .non) := rfl
theorem tag_b : tagOf h (.bl p) = some (.b .bool) := rfl
theorem tag_i : tagOf h (.int i) = some (.b .int) := rfl
theorem tag_s : tagOf h (.str s) = some (.b .str) := rfl
theorem tag_t : tagOf h (.tup ds) = some (.b .tuple) := rfl
theorem tag_c : tagOf h (.scr ds) = some (.b .list) := rfl
theorem tag_k {u d : Int} : tagOf h (.kin u d s) = some (.o "Kin") := rfl
theorem ins_k {u d : Int} : insOf h (.kin u d s) = some ("Kin", [("up", .int u), ("down", .int d), ("side", .str s), ("far", .int (u + d)), ("rank", .int (rankD s))]) := rfl
theorem e_fld_k {u d : Int} {f : String} : oFld "Kin" f (.kin u d s) h = ixD (List.lookup f [("up", .int u), ("down", .int d), ("side", .str s), ("far", .int (u + d)), ("rank", .int (rankD s))]) h := by
  show (if "Kin" = "Kin" then (List.lookup f _).map fun d => (d, h) else none) = _
  rw [if_pos rfl]
  cases List.lookup f [("up", D.int u), ("down", .int d), ("side", .str s), ("far", .int (u + d)), ("rank", .int (rankD s))] <;> rfl
theorem e_kd {tab : Str → Option Str} : oKd tab (.str s) h = ixD ((tab s).map D.str) h := by
  show (tab s).map (fun y => (D.str y, h)) = _
  cases tab s <;> rfl
theorem seqI_s : kSeqI (.str s) h = .ok ⟨none, s.cps.toList.map fun c => .str ⟨#[c]⟩⟩ h := rfl
theorem seqI_l : kSeqI (.ref a) h = imL (lstAt h a) a h := by
  show Rs.ofO ((lstAt h a).map fun ds => (⟨some a, ds⟩ : Im)) h = _
  cases lstAt h a <;> rfl
theorem seqI_t : kSeqI (.tup ds) h = .ok ⟨none, ds⟩ h := rfl
theorem seqI_c : kSeqI (.scr ds) h = .ok ⟨none, ds⟩ h := rfl
theorem rng_i : kRng1 [.int j] h = if -4611686018427387904 ≤ j ∧ j < 4611686018427387904 then .ok ⟨none, (List.range j.toNat).map fun k => .int (k : Nat)⟩ h else .no := rfl
theorem aug_e {i : Nat} {f : O2} {a : EM} {env : Mv} : sAug i f a env h = (mVar i env h).bind (kAugA i f a env) := by
  unfold sAug mVar
  cases env[i]? with
  | none => rfl
  | some o => cases o <;> rfl
end
theorem nm_eq {a b : String} : (Str.ofString a = Str.ofString b) = (a = b) := propext nm_inj
end M

/-! M8: several except clauses -/
namespace M
open PySem PySem.Spec PyProof.Rows L2 Z
abbrev Hd1 := (String → Option Bool) × Option Nat × (Er → SM)
def suRun (oi : Option Nat) (su : Er → SM) (x : Er) (e : Mv) (h : Mh) : Rs So := match oi with
  | none => (su x e h).ne
  | some i => if i < e.length then ((su x (e.set i none) h).ne).bind (kCut i) else .no
def hdsEr : List Hd1 → Er → Mv → Mh → Rs So
  | [], x, e, h => .er x e h
  | (sub, oi, su) :: r, x, e, h => match sub x.c with
    | some true => suRun oi su x e h
    | some false => hdsEr r x e h
    | none => .no
def tryG (l : List Hd1) (r : Rs So) : Rs So := match r with
  | .er x e h => hdsEr l x e h
  | r => r
def sTryG (l : List Hd1) (body : SM) (env : Mv) (h : Mh) : Rs So := tryG l (body env h)
section
variable {K : PySem.W.Frag} {Φ : Ph K} {W : WX}
inductive HdSim (K : PySem.W.Frag) (Φ : Ph K) : List (Value × Option Nat × TSu) → List Hd1 → Prop
  | nil : HdSim K Φ [] []
  | bare {cv : Value} {ts : TSu} {sub : String → Option Bool} {su : Er → SM} {l : List (Value × Option Nat × TSu)} {m : List Hd1} (hx : ExF K cv sub) (hs : ∀ x a cls d, SimS K Φ (fun _ _ _ _ => False) (ts a cls d) (su x)) (r : HdSim K Φ l m) :
      HdSim K Φ ((cv, none, ts) :: l) ((sub, none, su) :: m)
  | named {cv : Value} {i : Nat} {ts : TSu} {sub : String → Option Bool} {su : Er → SM} {l : List (Value × Option Nat × TSu)} {m : List Hd1} (hx : ExF K cv sub) (hi : Φ.ok i) (hs : ∀ x a cls d, SimS K (Φ.er x i a cls d) (fun _ _ _ _ => False) (ts a cls d) (su x)) (r : HdSim K Φ l m) :
      HdSim K Φ ((cv, some i, ts) :: l) ((sub, some i, su) :: m)
theorem hds_ok {D : Ends} {w : Wd} {x : Er} {e : Mv} {h : Mh} {l : List (Value × Option Nat × TSu)} {m : List Hd1} (hh : HdSim K Φ l m) (st : (hdsEr m x e h).sat (EndS K Φ w D) (XS K Φ W w)) (ok : w.Ok K) :
    ∀ ρ' σ' cls d H', Nx K w ⟨ρ', h, H'⟩ → Φ.p ⟨ρ', h, H'⟩ σ' → SlR K ⟨ρ', h, H'⟩ σ' e → ErrR K ⟨ρ', h, H'⟩ x cls d → wG K W D l cls d σ' H' := by
  induction hh with
  | nil => exact st
  | @bare cv ts sub su l m hx hs r ih =>
    intro ρ1 σ1 cls d H1 n1 φ1 sl1 er1
    have ecls : cls = .ref (He.ga K (nm x.c)) := er1.1
    unfold hdsEr at st
    split at st
    · rename_i hsub
      refine ⟨true, by rw [ecls]; exact hx _ _ hsub, fun _ a ha => ?_, fun z => (nomatch z)⟩
      refine hs x a cls d ⟨ρ1, h, H1⟩ σ1 e D n1.ok φ1 sl1 ((Rs.sat_ne st).mono (EndS.tr n1) fun _ _ _ z => z.elim)
    · rename_i hsub
      exact ⟨false, by rw [ecls]; exact hx _ _ hsub, fun z => (nomatch z), fun _ => ih st ρ1 σ1 cls d H1 n1 φ1 sl1 er1⟩
    · exact st.elim
  | @named cv i ts sub su l m hx hi hs r ih =>
    intro ρ1 σ1 cls d H1 n1 φ1 sl1 er1
    have ecls : cls = .ref (He.ga K (nm x.c)) := er1.1
    unfold hdsEr at st
    split at st
    · rename_i hsub
      refine ⟨true, by rw [ecls]; exact hx _ _ hsub, fun _ a ha => ?_, fun z => (nomatch z)⟩
      unfold suRun at st
      dsimp only at st
      split at st
      · rename_i hl
        refine hs x a cls d ⟨ρ1, h, H1⟩ _ (e.set i none) _ n1.ok ⟨Φ.st _ _ _ _ hi φ1, er1, List.getElem?_set_self (by rw [sl1.1]; exact hl)⟩ (sl1.cut i _) ((Rs.sat_ne (Rs.sat_bind.mp st)).mono (fun o h2 p => ?_) fun _ _ _ z => z.elim)
        cases o with
        | nx e => exact fun ρ3 σ3 H3 n3 φ3 sl3 => p _ _ _ (n1.trans n3) (Φ.st _ _ _ _ hi φ3.1) (sl3.cut i _)
        | bk e => exact fun ρ3 σ3 H3 n3 φ3 sl3 => p _ _ _ (n1.trans n3) (Φ.st _ _ _ _ hi φ3.1) (sl3.cut i _)
        | ct e => exact fun ρ3 σ3 H3 n3 φ3 sl3 => p _ _ _ (n1.trans n3) (Φ.st _ _ _ _ hi φ3.1) (sl3.cut i _)
        | rt d => exact fun ρ3 v H3 n3 => p ρ3 v H3 (n1.trans n3)
      · exact st.elim
    · rename_i hsub
      exact ⟨false, by rw [ecls]; exact hx _ _ hsub, fun z => (nomatch z), fun _ => ih st ρ1 σ1 cls d H1 n1 φ1 sl1 er1⟩
    · exact st.elim
theorem ss_tryG {l : List (Value × Option Nat × TSu)} {m : List Hd1} {tb : WX → TS} {s : SM} (hb : ∀ W', SimS K Φ W' (tb W') s) (hh : HdSim K Φ l m) : SimS K Φ W (fun D σ H => tb (wG K W D l) D σ H) (sTryG m s) := by
  intro w σ env D ok φ sl st
  refine hb _ w σ env D ok φ sl ?_
  unfold sTryG at st
  cases e : s env w.h with
  | ok o h1 =>
    rw [e] at st
    exact st
  | no =>
    rw [e] at st
    exact st.elim
  | er x e1 h1 =>
    rw [e] at st
    exact hds_ok hh (show (hdsEr m x e1 h1).sat _ _ from st) ok
end
end M

/-! M9: constants of a class by its name -/
namespace M
open PySem PySem.Spec PyProof.Rows L2 Z He
def crB (K : PySem.W.Frag) (C : Addr) : Bool := PySem.W.readsIn K C (.type "type") && eqV (PySem.W.specialIn K (.ref C) "__getattribute__") (some (some (.builtin "type.__getattribute__")))
theorem crB_ok {K : PySem.W.Frag} {C : Addr} (h : crB K C = true) : ClX.CRead K C (.type "type") := by
  obtain ⟨h1, h2⟩ := ba h
  exact ⟨h1, of_decide_eq_true h2⟩
def cvB (K : PySem.W.Frag) (C : Addr) (f : Str) (v : He.Dv) : Bool := match PySem.W.findCls K (.ref C) (.type "type") f with
  | some (.val u) => He.relB (v.v K) u
  | _ => false
theorem cvB_ok {K : PySem.W.Frag} {C : Addr} {f : Str} {v : He.Dv} (h : cvB K C f v = true) : ∃ u, ClX.CVal K C (.type "type") f (v.v K) u := by
  unfold cvB at h
  split at h
  · rename_i u e
    exact ⟨u, e, He.relB_ok h⟩
  · cases h
section
variable {K : PySem.W.Frag} {Φ : Ph K} {W : WX}
theorem sim_cval {C : Addr} {mc : Value} {f : Str} {v : V} {u : Value} {d : D} (cr : ClX.CRead K C mc) (cv : ClX.CVal K C mc f v u) (r : ∀ w, RepV K w d v) : SimE K Φ W (ClX.tCVal K (tC (.ref C)) f) (mC d) :=
  fun w σ env Q ok φ sl s => ⟨C, mc, v, u, rfl, cr, cv, s _ _ _ (Nx.refl ok) (r _)⟩
end
end M

/-! M10: list comprehensions -/
namespace M
open PySem PySem.Spec PyProof.Rows L2 Z
def wipeM (env : Mv) : List Nat → Mv
  | [] => env
  | v :: vs => (wipeM env vs).set v none
def kLcE (f : List D → Mh → Rs (List D)) (acc : List D) (y : D) (h : Mh) : Rs (List D) := if acc.length < sizeLine then f (acc ++ [y]) h else .no
def kLcC (f : List D → Mh → Rs (List D)) (e : EM) (acc : List D) (env : Mv) (b : Bool) (h : Mh) : Rs (List D) := if b = true then (e env h).bind (kLcE f acc) else f acc h
def kLcG (f : List D → Mh → Rs (List D)) (c : BM) (e : EM) (acc : List D) (env : Mv) (h : Mh) : Rs (List D) := (c env h).bind (kLcC f e acc env)
open Classical in
noncomputable def mLoopC (a : Option Nat) (all : List D) (g : GM) (c : BM) (e : EM) (env : Mv) : List D → List D → Mh → Rs (List D)
  | [], acc, h => if (∀ b, a = some b → lstAt h b = some all) then .ok acc h else .no
  | d :: ds, acc, h => if (∀ b, a = some b → lstAt h b = some all) then (g d env h).bind (kLcG (mLoopC a all g c e env ds) c e acc) else .no
def kLcF (acc : List D) (h : Mh) : Rs D := .ok (.ref h.length) (h ++ [.lst acc])
noncomputable def kLcI (g : GM) (c : BM) (e : EM) (vs : List Nat) (env : Mv) (it : Im) (h : Mh) : Rs D := ((mLoopC it.at? it.ds g c e (wipeM env vs) it.ds [] h).ne).bind kLcF
noncomputable def mLc (i : IM) (g : GM) (c : BM) (e : EM) (vs : List Nat) (env : Mv) (h : Mh) : Rs D := (i env h).bind (kLcI g c e vs env)
def mTrue (_ : Mv) (h : Mh) : Rs Bool := .ok true h
section
variable {K : PySem.W.Frag} {Φ : Ph K} {W : WX}
/-- a list at p that the heap does not tell -/
structure Sid (K : PySem.W.Frag) (w : Wd) (p : Addr) (acc : List D) (vs : List V) : Prop where
  h : w.H p = some (.lst vs)
  r : RepL K w acc vs
  n : ∀ a, a < w.h.length → w.ρ a ≠ p
theorem Sid.nx {w w' : Wd} {p : Addr} {acc : List D} {vs : List V} (s : Sid K w p acc vs) (ok : w.Ok K) (x : Nx K w w') : Sid K w' p acc vs := by
  refine ⟨x.kp _ _ s.h s.n, x.l ok s.r, fun a ha e => ?_⟩
  by_cases hl : a < w.h.length
  · exact s.n a hl ((x.ag a hl).symm.trans e)
  · have z := x.fr a (Nat.not_lt.mp hl) ha
    rw [e, s.h] at z
    cases z
theorem Sid.new {w : Wd} (ok : w.Ok K) {p : Addr} (n : w.H p = none) : Sid K (w.fz p (.lst [])) p [] [] := ⟨upd_same, wl0, fun a ha e => by
  obtain ⟨o, z, _⟩ := ok.at ha
  rw [e, n] at z
  cases z⟩
abbrev Wd.up (w : Wd) (p : Addr) (o : HO) : Wd := ⟨w.ρ, w.h, upd w.H p o⟩
theorem Sid.kf {w : Wd} {p : Addr} {acc : List D} {vs us : List V} (s : Sid K w p acc vs) : ∀ q o, w.H q = some o → Fz K o → (w.up p (.lst us)).H q = some o := fun q o e f => by
  by_cases h : q = p
  · rw [h, s.h] at e
    cases e
    exact f.elim
  · exact (upd_ne h).trans e
theorem Sid.push {w0 w : Wd} {p : Addr} {acc : List D} {vs : List V} {d : D} {v : V} (s : Sid K w p acc vs) (x : Nx K w0 w) (n : w0.H p = none) (r : RepV K w d v) : Nx K w0 (w.up p (.lst (vs ++ [v]))) ∧ Sid K (w.up p (.lst (vs ++ [v]))) p (acc ++ [d]) (vs ++ [v]) := by
  have k := s.kf (us := vs ++ [v])
  have ne : ∀ q, q ≠ p → (w.up p (.lst (vs ++ [v]))).H q = w.H q := fun q h => upd_ne h
  refine ⟨⟨⟨x.ok.inj, fun a u h => ?_⟩, x.le, x.ag, fun q o h m => ?_, fun a h1 h2 => x.fr a h1 h2⟩, ⟨upd_same, RepL.keep (w := w) (w' := w.up p (.lst (vs ++ [v]))) (Nat.le_refl _) (fun _ _ => rfl) k _ _ (s.r.app (wl1 r wl0)), s.n⟩⟩
  · have ha := (List.getElem?_eq_some_iff.mp h).1
    exact RepO.keep (w := w) (w' := w.up p (.lst (vs ++ [v]))) (Nat.le_refl _) (fun _ _ => rfl) k (x.ok.obj a u h) fun o e => (ne _ (s.n a ha)).trans e
  · rw [ne q fun e => by rw [e, n] at h; cases h]
    exact x.kp q o h m
/-- the list is told from now on -/
theorem Sid.adopt {w0 w : Wd} {p : Addr} {acc : List D} {vs : List V} (s : Sid K w p acc vs) (x : Nx K w0 w) (n : w0.H p = none) : Nx K w0 ⟨ext1 w.ρ w.h.length p, w.h ++ [.lst acc], w.H⟩ ∧ RepV K ⟨ext1 w.ρ w.h.length p, w.h ++ [.lst acc], w.H⟩ (.ref w.h.length) (.ref p) := by
  have le : w.h.length ≤ (⟨ext1 w.ρ w.h.length p, w.h ++ [.lst acc], w.H⟩ : Wd).h.length := by simp
  have ag : ∀ a, a < w.h.length → ext1 w.ρ w.h.length p a = w.ρ a := fun a h => if_neg (Nat.ne_of_lt h)
  have at_ : ext1 w.ρ w.h.length p w.h.length = p := if_pos rfl
  refine ⟨⟨⟨fun a b ha hb e => ?_, fun a u h => ?_⟩, Nat.le_trans x.le le, fun a h => (ag a (Nat.lt_of_lt_of_le h x.le)).trans (x.ag a h), fun q o h m => x.kp q o h m, fun a h1 h2 => ?_⟩, ?_⟩
  · have ha' : a < w.h.length + 1 := by simpa using ha
    have hb' : b < w.h.length + 1 := by simpa using hb
    have e' : ext1 w.ρ w.h.length p a = ext1 w.ρ w.h.length p b := e
    unfold ext1 at e'
    by_cases h1 : a = w.h.length
    · by_cases h2 : b = w.h.length
      · rw [h1, h2]
      · rw [if_pos h1, if_neg h2] at e'
        exact (s.n b (by omega) e'.symm).elim
    · by_cases h2 : b = w.h.length
      · rw [if_neg h1, if_pos h2] at e'
        exact (s.n a (by omega) e').elim
      · rw [if_neg h1, if_neg h2] at e'
        exact x.ok.inj a b (by omega) (by omega) e'
  · have h' : (w.h ++ [.lst acc])[a]? = some u := h
    by_cases hl : a < w.h.length
    · rw [List.getElem?_append_left hl] at h'
      have q := x.ok.obj a u h'
      show RepO K _ (ext1 w.ρ w.h.length p a) u
      rw [ag a hl]
      exact RepO.keep (w := w) le ag (fun _ _ h _ => h) q fun _ h => h
    · have hlt := (List.getElem?_eq_some_iff.mp h').1
      have e : a = w.h.length := by simp at hlt; omega
      subst e
      simp at h'
      subst h'
      show RepO K _ (ext1 w.ρ w.h.length p w.h.length) _
      rw [at_]
      exact ⟨vs, s.h, RepL.keep (w := w) le ag (fun _ _ h _ => h) _ _ s.r⟩
  · by_cases hl : a < w.h.length
    · show w0.H (ext1 w.ρ w.h.length p a) = none
      rw [ag a hl]
      exact x.fr a h1 hl
    · have e : a = w.h.length := by simp at h2; omega
      subst e
      show w0.H (ext1 w.ρ w.h.length p w.h.length) = none
      rw [at_]
      exact n
  · unfold RepV
    exact ⟨by simp, congrArg V.ref at_.symm⟩
theorem SlR.wipe {w : Wd} {σ : St} {env : Mv} (r : SlR K w σ env) : ∀ vs, SlR K w (L2.wipe σ vs) (wipeM env vs)
  | [] => r
  | v :: vs => (SlR.wipe r vs).cut v none
/-- the target stores nothing but in these slots -/
def GW (vs : List Nat) (g : TG) : Prop := ∀ x (σ : St) H Q, g x (L2.wipe σ vs) H Q → g x (L2.wipe σ vs) H fun σ2 H2 => L2.wipe σ2 vs = L2.wipe σ vs ∧ Q σ2 H2
theorem wipe_set {σ : St} : ∀ {vs : List Nat} {i : Nat} {o : Option V}, i ∈ vs → L2.wipe (σ.set i o) vs = L2.wipe σ vs
  | v :: vs, i, o, h => by
    unfold L2.wipe
    by_cases e : i = v
    · subst e
      have key : ∀ (vs : List Nat) (o : Option V), (L2.wipe (σ.set i o) vs).set i none = (L2.wipe σ vs).set i none := by
        intro vs o
        induction vs with
        | nil =>
          show (σ.set i o).set i none = σ.set i none
          rw [List.set_set]
        | cons u us ih =>
          unfold L2.wipe
          by_cases e : u = i
          · subst e
            rw [List.set_set, List.set_set]
            exact ih
          · rw [List.set_comm none none e, List.set_comm none none e, ih]
      exact key vs o
    · have h' : i ∈ vs := by
        rcases List.mem_cons.mp h with z | z
        · exact (e z).elim
        · exact z
      rw [wipe_set h']
theorem wipe_wipe {σ : St} : ∀ {vs us : List Nat}, (∀ v ∈ us, v ∈ vs) → L2.wipe (L2.wipe σ us) vs = L2.wipe σ vs
  | vs, [], _ => rfl
  | vs, u :: us, h => by
    show L2.wipe ((L2.wipe σ us).set u none) vs = _
    rw [wipe_set (h u (.head _))]
    exact wipe_wipe fun v hv => h v (.tail _ hv)
theorem gw_name {vs : List Nat} {i : Nat} (h : i ∈ vs) : GW vs (zN i) := fun x σ H Q q => by
  rw [zN_eq] at q ⊢
  exact ⟨by rw [wipe_set h]; exact wipe_wipe fun _ h => h, q⟩
theorem sim_true : SimT K Φ W tYes mTrue := fun w σ env Q ok φ sl s => s _ _ (Nx.refl ok)
theorem sim_lc {wi : TI} {im : IM} {g : TG} {gm : GM} {tt : TT} {c : BM} {te : TE} {e : EM} {vs : List Nat} (hi : SimI K Φ W wi im) (hg : SimG K (Ph.tt K) (fun _ _ _ _ => False) g gm) (hw : GW vs g) (hc : SimT K (Ph.tt K) (fun _ _ _ _ => False) tt c)
    (he : SimE K (Ph.tt K) (fun _ _ _ _ => False) te e) : SimE K Φ W (tLc wi g tt te vs) (mLc im gm c e vs) := by
  intro w σ env Q ok φ sl s
  refine hi w σ env _ ok φ sl ((Rs.sat_bind.mp s).mono (fun it h1 p => ?_) fun _ _ _ e => e)
  intro ρ1 J H1 n1 hJ q hq
  have p1 := Rs.sat_ne (Rs.sat_bind.mp p)
  have sl1 := (sl.nx ok n1).wipe vs
  refine ⟨fun i m H => ∃ (w2 : Wd) (acc : List D) (us : List V), w2.H = H ∧ Nx K ⟨ρ1, h1, H1⟩ w2 ∧ Sid K w2 q acc us ∧ m = it.ds.length - i ∧ i ≤ it.ds.length ∧
    (mLoopC it.at? it.ds gm c e (wipeM env vs) (it.ds.drop i) acc w2.h).sat (fun acc h => (kLcF acc h).sat (PV K w Q) (XE K W w σ)) (fun _ _ _ => False),
    ⟨_, (⟨ρ1, h1, H1⟩ : Wd).fz q (.lst []), [], [], rfl, nx_fz n1.ok hq, Sid.new n1.ok hq, rfl, Nat.zero_le _, p1⟩, ?_⟩
  rintro i m H ⟨w2, acc, us, rfl, n2, sd, rfl, hi, st⟩
  by_cases hl : i < it.ds.length
  · right
    rw [List.drop_eq_getElem_cons hl] at st
    unfold mLoopC at st
    split at st
    · rename_i hk
      obtain ⟨go, yl⟩ := (hJ w2 n2 hk i).2 _ (List.getElem?_eq_getElem hl)
      refine ⟨go, _, fun H' z => ⟨it.ds.length - (i + 1), by omega, z⟩, fun x H' hy => ?_⟩
      obtain ⟨ρ3, n3, r3⟩ := yl x H' hy
      refine hw _ _ _ _ ?_
      refine hg ⟨ρ3, w2.h, H'⟩ _ _ _ x _ n3.ok trivial (sl1.nx n1.ok (n2.trans n3)) r3 ((Rs.sat_bind.mp st).mono (fun e1 h4 p4 => ?_) fun _ _ _ z => z.elim)
      intro ρ4 σ4 H4 n4 _ sl4
      refine hc ⟨ρ4, h4, H4⟩ σ4 e1 _ n4.ok trivial sl4 ((Rs.sat_bind.mp p4).mono (fun b h5 p5 => ?_) fun _ _ _ z => z.elim)
      intro ρ5 H5 n5
      have n25 := (n3.trans n4).trans n5
      unfold kLcC at p5
      cases b with
      | false =>
        rw [if_neg Bool.false_ne_true] at p5 ⊢
        exact ⟨⟨ρ5, h5, H5⟩, acc, us, rfl, n2.trans n25, sd.nx n2.ok n25, rfl, hl, p5⟩
      | true =>
        rw [if_pos rfl] at p5 ⊢
        refine he ⟨ρ5, h5, H5⟩ σ4 e1 _ n5.ok trivial (sl4.nx n4.ok n5) ((Rs.sat_bind.mp p5).mono (fun y h6 p6 => ?_) fun _ _ _ z => z.elim)
        intro ρ6 v6 H6 n6 r6
        have n26 := n25.trans n6
        have sd6 := sd.nx n2.ok n26
        unfold kLcE at p6
        split at p6
        · rename_i hlen
          obtain ⟨n7, sd7⟩ := sd6.push (w0 := ⟨ρ1, h1, H1⟩) (n2.trans n26) hq r6
          exact ⟨us, sd6.h, by rw [sd6.r.len]; exact hlen, _, _, _, rfl, n7, sd7, rfl, hl, p6⟩
        · exact p6.elim
    · exact st.elim
  · left
    have ei : i = it.ds.length := by omega
    rw [ei, List.drop_length] at st
    unfold mLoopC at st
    split at st
    · rename_i hk
      obtain ⟨n3, r3⟩ := sd.adopt (w0 := ⟨ρ1, h1, H1⟩) n2 hq
      exact ⟨(hJ w2 n2 hk i).1 (by omega), st _ _ _ (n1.trans n3) r3⟩
    · exact st.elim
end
end M

/-! M11: more operations -/
namespace M
open PySem PySem.Spec PyProof.Rows L2 Z
/-! rules -/
section
variable {X : Cx} {K : PySem.W.Frag}
theorem k_tuple (K : PySem.W.Frag) (hK : X.K = K) : CallR X (.type "tuple") (fun xs H Q => ∃ p ys, xs = [.ref p] ∧ ((SqL K H p ys ∧ ∀ l, H l = none → Q (.ref l) (upd H l (.tup ys))) ∨ (SqT K H p ys ∧ Q (.ref p) H))) := by
  subst hK
  exact call_tuple_of
theorem k_index (K : PySem.W.Frag) (hK : X.K = K) : MtR X "list.index" (rIndex K) := by
  subst hK
  exact mt_index
theorem z_setLc (i : Nat) {y : Str} {py : Pos} {elt tg iter : Expr} {ifs : List Expr} {scope : Scope} {own : List (Str × Nat)} {pos spos : Pos} {wi : TI} {g : TG} {tt : TT} {te : TE} (hc : X.calm = true) (hN : X.N.Nodup)
    (hsw : swapsWith (.ListComp elt [⟨tg, iter, ifs, 0⟩] scope pos) (some (.Name y py)) spos.line X.env = pure true) (hi : PI X tg iter wi) (ok : BlkOk X.N X.env.scope scope own)
    (hg : ∀ (s : Shared) (H : Hp) (C : Addr) (cl : List (Str × Addr)) (fp : List Addr), PG (X.blk s H scope (compEnvC scope cl C X.env) fp) tg g) (ht : ∀ (s : Shared) (H : Hp) (C : Addr) (cl : List (Str × Addr)) (fp : List Addr), PTs (X.blk s H scope (compEnvC scope cl C X.env) fp) ifs tt)
    (he : ∀ (s : Shared) (H : Hp) (C : Addr) (cl : List (Str × Addr)) (fp : List Addr), PE (X.blk s H scope (compEnvC scope cl C X.env) fp) elt te) (hy : X.N[i]? = some y := by rfl) (hyl : X.env.scope.names.lookup y = some .local := by rfl) (hs : ∀ x, foldedSetIterable iter X.env x = pure x := by intro _; rfl) :
    PS X (.Assign [.Name y py] (.ListComp elt [⟨tg, iter, ifs, 0⟩] scope pos) spos) (tAsg (tLc wi g tt te (own.map (·.2))) (zN i)) := by
  rw [zN_eq]
  exact ps_setLc hc hN hy hyl hsw hi ok hg ht he hs
theorem z_rng2 {tg : Expr} {a b : Expr} {ta : TA} {p pos : Pos} (hm : X.mg "range" = none) (ha : PA X [a, b] ta) (hg : Gl X "range" := by rfl) (hs : starEach [a, b] X.env = [(false, eval a X.env), (false, eval b X.env)] := by rfl) (hs2 : starEach [b] X.env = [(false, eval b X.env)] := by rfl) :
    PI X tg (.Call (.Name "range" p) [a, b] [] pos) (iRng2 ta) := pi_range2 hg hm ha hs hs2
theorem z_rng3 {tg : Expr} {a b c : Expr} {ta : TA} {p pos : Pos} (hm : X.mg "range" = none) (ha : PA X [a, b, c] ta) (hg : Gl X "range" := by rfl)
    (hs : starEach [a, b, c] X.env = (false, eval a X.env) :: starEach [b, c] X.env := by rfl) (hpl : (backTo pos (starEach [b, c] X.env)).any (·.1) = false := by rfl) :
    PI X tg (.Call (.Name "range" p) [a, b, c] [] pos) (iRng3 ta) := pi_range3 hg hm ha hs hpl
end
/-! data -/
def oIAdd : O2 := i20 fun i j => .int (i + j)
def oISub : O2 := i20 fun i j => .int (i - j)
def oIAddS : O2 := fun x y h => match x, y with
  | .str a, .str b => if a.length + b.length ≤ sizeLine then some (.str (a ++ b), h) else none
  | _, _ => none
def oRep : O2 := fun x y h => match x, y with
  | .ref a, .int k => (lstAt h a).bind fun xs => if (-9223372036854775808 ≤ k ∧ k < 9223372036854775808) ∧ xs.length * k.toNat ≤ sizeLine then newO (.lst (List.replicate k.toNat xs).flatten) h else none
  | _, _ => none
def oTuple : OL := fun vs h => match vs with
  | [x] => (seqOf h x).map fun xs => (.tup xs, h)
  | _ => none
def oInsert : OMt := fun x vs h => match x, vs with
  | .ref a, [.int i, y] => (lstAt h a).bind fun xs => if xs.length < sizeLine ∧ 0 ≤ i ∧ i < 9223372036854775808 then some (.non, h.set a (.lst (xs.take i.toNat ++ [y] ++ xs.drop i.toNat))) else none
  | _, _ => none
def oClear : OMt := fun x vs h => match x, vs with
  | .ref a, [] => (lstAt h a).map fun xs => (.non, h.set a (.lst []))
  | _, _ => none
def oPopAt : OMt := fun x vs h => match x, vs with
  | .ref a, [.int i] => (lstAt h a).bind fun xs => if 0 ≤ i ∧ i < 9223372036854775808 then (xs[i.toNat]?).map fun y => (y, h.set a (.lst (xs.eraseIdx i.toNat))) else none
  | _, _ => none
def oExtend : OMt := fun x vs h => match x, vs with
  | .ref a, [.ref b] => (lstAt h a).bind fun xs => (lstAt h b).bind fun ys => if xs.length + ys.length ≤ sizeLine then some (.non, h.set a (.lst (xs ++ ys))) else none
  | _, _ => none
def oIndex : OMt := fun x vs h => match x, vs with
  | x, [y] => match scD y, (seqOf h x).bind (fun ys => ys.mapM scD), x with
    | some v, some vs, .ref _ => (vs.findIdx? fun z => L2.eqV z v).map fun j => (.int (j : Nat), h)
    | _, _, _ => none
  | _, _ => none
def kRng2 (xs : List D) (h : Mh) : Rs Im := match xs with
  | [.int i, .int j] => if (-4611686018427387904 ≤ i ∧ i < 4611686018427387904) ∧ -4611686018427387904 ≤ j ∧ j < 4611686018427387904 then .ok ⟨none, (List.range (j - i).toNat).map fun k => .int (i + (k : Nat))⟩ h else .no
  | _ => .no
def iRng2 (a : AM) (env : Mv) (h : Mh) : Rs Im := (a env h).bind kRng2
def kRng3 (xs : List D) (h : Mh) : Rs Im := match xs with
  | [.int i, .int j, .int c] => if ((-4611686018427387904 ≤ i ∧ i < 4611686018427387904) ∧ -4611686018427387904 ≤ j ∧ j < 4611686018427387904) ∧ c = -1 then .ok ⟨none, (List.range (i - j).toNat).map fun k => .int (i - (k : Nat))⟩ h else .no
  | _ => .no
def iRng3 (a : AM) (env : Mv) (h : Mh) : Rs Im := (a env h).bind kRng3
def oFmt : O1 := fun x h => match x with
  | .str y => if y.length ≤ sizeLine then some (.str y, h) else none
  | .int i => if i.natAbs.log2 < 1920 then some (.str (toString i), h) else none
  | _ => none
def kJs (f : Str → Mh → Rs D) (acc : Str) (x : D) (h : Mh) : Rs D := match x with
  | .str y => if (acc ++ y).length ≤ sizeLine then f (acc ++ y) h else .no
  | _ => .no
def mJs : List EM → Str → Mv → Mh → Rs D
  | [], acc, _, h => .ok (.str acc) h
  | a :: as, acc, env, h => (a env h).bind (kJs (fun acc h => mJs as acc env h) acc)
/-! that the rules' readings follow -/
section
variable {K : PySem.W.Frag} {Φ : Ph K} {W : WX} {ta te : TE} {a : EM} {t : TA} {m : AM}
theorem sim_r0 {g : Int → Int → Int} : Sim2 K (rI0 fun i j => .int (g i j)) (i20 fun i j => .int (g i j)) := by
  intro w x y vx vy Q d h' ok rx ry e p
  unfold i20 at e
  split at e
  · cases e
    cases ri rx
    cases ri ry
    exact ⟨_, _, rfl, rfl, p _ _ _ (Nx.refl ok) wi⟩
  · cases e
theorem s_iadd : Sim2 K (rI0 fun i j => .int (i + j)) oIAdd := sim_r0
theorem s_isub : Sim2 K (rI0 fun i j => .int (i - j)) oISub := sim_r0
theorem s_iaddS : Sim2 K (fun x y H Q => ∃ i j, x = V.str i ∧ y = .str j ∧ i.length + j.length ≤ sizeLine ∧ Q (.str (i ++ j)) H) oIAddS := by
  intro w x y vx vy Q d h' ok rx ry e p
  unfold oIAddS at e
  split at e
  · split at e
    · rename_i c
      cases e
      cases rs rx
      cases rs ry
      exact ⟨_, _, rfl, rfl, c, p _ _ _ (Nx.refl ok) ws⟩
    · cases e
  · cases e
theorem RepL.flat {w : Wd} {xs : List D} {vs : List V} (r : RepL K w xs vs) : ∀ n, RepL K w (List.replicate n xs).flatten (List.replicate n vs).flatten
  | 0 => wl0
  | n + 1 => by
    rw [List.replicate_succ, List.replicate_succ, List.flatten_cons, List.flatten_cons]
    exact r.app (RepL.flat r n)
theorem s_rep : Sim2 K rRep oRep := by
  intro w x y vx vy Q d h' ok rx ry e p
  unfold oRep at e
  split at e
  · obtain ⟨xs, e1, e2⟩ := Option.bind_eq_some_iff.mp e
    split at e2
    · rename_i c
      cases ri ry
      obtain ⟨us, ev, hl, eh, rl⟩ := lst_z ok e1 rx
      subst ev
      exact ⟨_, _, us, rfl, rfl, eh, c.1.1, c.1.2, by rw [rl.len]; exact c.2, (new_lst ok (rl.flat _) e2 p).out⟩
    · cases e2
  · cases e
theorem s_tuple : SimL K (fun xs H Q => ∃ p ys, xs = [V.ref p] ∧ ((SqL K H p ys ∧ ∀ l, H l = none → Q (.ref l) (upd H l (.tup ys))) ∨ (SqT K H p ys ∧ Q (.ref p) H))) oTuple := by
  intro w x vx Q d h' ok rx e p
  unfold oTuple at e
  split at e
  · rename_i x
    obtain ⟨xs, e1, e2⟩ := Option.map_eq_some_iff.mp e
    cases e2
    obtain ⟨v, vs, rfl, r1, r2⟩ := rl1 rx
    cases rl0 r2
    cases x with
    | tup ds =>
      cases e1
      obtain ⟨q, us, rfl, sq, rl⟩ := rt r1
      exact ⟨q, us, rfl, .inr ⟨sq, p _ _ _ (Nx.refl ok) r1⟩⟩
    | scr ds =>
      cases e1
      obtain ⟨q, us, rfl, sq, rl⟩ := rc r1
      exact ⟨q, us, rfl, .inl ⟨sq.sq, (new_tup ok rl p).out⟩⟩
    | ref a =>
      obtain ⟨us, ev, hl, eh, rl⟩ := lst_z ok e1 r1
      subst ev
      exact ⟨_, us, rfl, .inl ⟨SqL.of eh, (new_tup ok rl p).out⟩⟩
    | _ => cases e1
  · cases e
theorem s_insert : SimM K (fun x vs H Q => ∃ (l : Addr) (xs : List V) (i : Int) (y : V), x = .ref l ∧ vs = [.int i, y] ∧ H l = some (.lst xs) ∧ xs.length < sizeLine ∧ 0 ≤ i ∧ i < 2 ^ 63 ∧ Q .non (upd H l (.lst (xs.take i.toNat ++ [y] ++ xs.drop i.toNat)))) oInsert := by
  intro w x y vx vy Q d h' ok rx ry e p
  unfold oInsert at e
  split at e
  · obtain ⟨xs, e1, e2⟩ := Option.bind_eq_some_iff.mp e
    split at e2
    · rename_i c
      cases e2
      obtain ⟨v, vs, rfl, r1, r2⟩ := rl1 ry
      obtain ⟨u, us, rfl, r3, r4⟩ := rl1 r2
      cases rl0 r4
      cases ri r1
      obtain ⟨us, ev, hl, eh, rl⟩ := lst_z ok e1 rx
      subst ev
      exact ⟨_, us, _, u, rfl, rfl, eh, by rw [rl.len]; exact c.1, c.2.1, c.2.2, p _ _ _ (set_lst ok hl (((rl.take _).app (wl1 r3 wl0)).app (rl.drop _))) wn⟩
    · cases e2
  · cases e
theorem s_clear : SimM K rClear oClear := by
  intro w x y vx vy Q d h' ok rx ry e p
  unfold oClear at e
  split at e
  · obtain ⟨xs, e1, e2⟩ := Option.map_eq_some_iff.mp e
    cases e2
    cases rl0 ry
    obtain ⟨us, ev, hl, eh, rl⟩ := lst_z ok e1 rx
    subst ev
    exact ⟨_, us, rfl, rfl, eh, p _ _ _ (set_lst ok hl wl0) wn⟩
  · cases e
theorem RepL.erase {w : Wd} : ∀ {ds : List D} {vs : List V} (i : Nat), RepL K w ds vs → RepL K w (ds.eraseIdx i) (vs.eraseIdx i)
  | [], _, _, h => by rw [rl0 h]; exact wl0
  | d :: ds, _, 0, h => by
    obtain ⟨v, ws, rfl, r, t⟩ := rl1 h
    exact t
  | d :: ds, _, i + 1, h => by
    obtain ⟨v, ws, rfl, r0, t⟩ := rl1 h
    exact wl1 r0 (RepL.erase i t)
theorem s_popAt : SimM K rPopAt oPopAt := by
  intro w x y vx vy Q d h' ok rx ry e p
  unfold oPopAt at e
  split at e
  · rename_i i
    obtain ⟨xs, e1, e2⟩ := Option.bind_eq_some_iff.mp e
    split at e2
    · rename_i c
      obtain ⟨u, e3, e4⟩ := Option.map_eq_some_iff.mp e2
      cases e4
      obtain ⟨v, vs, rfl, r1, r2⟩ := rl1 ry
      cases rl0 r2
      cases ri r1
      obtain ⟨us, ev, hl, eh, rl⟩ := lst_z ok e1 rx
      subst ev
      obtain ⟨z, ez, rz⟩ := rl.at e3
      have hi : i.toNat < us.length := (List.getElem?_eq_some_iff.mp ez).1
      have n := set_lst ok hl (rl.erase i.toNat)
      refine ⟨_, us, i, i.toNat, z, rfl, rfl, eh, by omega, c.2, ?_, ez, p _ _ _ n (n.v ok rz)⟩
      have e5 : ixN us.length i = some i.toNat := by
        unfold ixN
        rw [if_pos (by omega), if_pos (by omega)]
      exact (ixN_seq e5).1
    · cases e2
  · cases e
theorem s_extend : SimM K rExtend oExtend := by
  intro w x y vx vy Q d h' ok rx ry e p
  unfold oExtend at e
  split at e
  · obtain ⟨xs, e1, e2⟩ := Option.bind_eq_some_iff.mp e
    obtain ⟨ys, e3, e4⟩ := Option.bind_eq_some_iff.mp e2
    split at e4
    · rename_i c
      cases e4
      obtain ⟨v, vs, rfl, r1, r2⟩ := rl1 ry
      cases rl0 r2
      obtain ⟨us, ev, hl, eh, rl⟩ := lst_z ok e1 rx
      obtain ⟨zs, ev2, hl2, eh2, rl2⟩ := lst_z ok e3 r1
      subst ev ev2
      exact ⟨_, _, us, zs, rfl, rfl, eh, eh2, by rw [rl.len, rl2.len]; exact c, p _ _ _ (set_lst ok hl (rl.app rl2)) wn⟩
    · cases e4
  · cases e
theorem si_rng2 (ha : SimA K Φ W t m) : SimI K Φ W (L2.iRng2 t) (M.iRng2 m) := by
  intro w σ env R ok φ sl s
  refine ha.go ok φ sl s fun w1 d v n1 ok1 φ1 sl1 r1 s1 => ?_
  unfold kRng2 at s1
  split at s1
  · rename_i i j
    split at s1
    · rename_i c
      obtain ⟨v1, vs, rfl, r3, r2⟩ := rl1 r1
      obtain ⟨v2, vs, rfl, r4, r5⟩ := rl1 r2
      cases rl0 r5
      cases ri r3
      cases ri r4
      refine ⟨i, j, rfl, ⟨by omega, by omega, by omega, by omega⟩, s1 _ _ _ n1 ?_⟩
      intro w' n _ k
      refine ⟨fun hl => ?_, fun d hd => ?_⟩
      · show (j - i).toNat ≤ k
        simpa using hl
      · rw [List.getElem?_map] at hd
        obtain ⟨k2, ek, rfl⟩ := Option.map_eq_some_iff.mp hd
        obtain ⟨hk, ek⟩ := List.getElem?_eq_some_iff.mp ek
        rw [List.getElem_range] at ek
        subst ek
        have hk' : k < (j - i).toNat := by simpa using hk
        refine ⟨hk', fun y H' hy => ?_⟩
        obtain ⟨rfl, rfl⟩ := hy
        exact ⟨w'.ρ, Nx.refl n.ok, wi⟩
    · exact s1.elim
  · exact s1.elim
theorem si_rng3 (ha : SimA K Φ W t m) : SimI K Φ W (L2.iRng3 t) (M.iRng3 m) := by
  intro w σ env R ok φ sl s
  refine ha.go ok φ sl s fun w1 d v n1 ok1 φ1 sl1 r1 s1 => ?_
  unfold kRng3 at s1
  split at s1
  · rename_i i j c
    split at s1
    · rename_i hc
      obtain ⟨hb, rfl⟩ := hc
      obtain ⟨v1, vs, rfl, r3, r2⟩ := rl1 r1
      obtain ⟨v2, vs, rfl, r4, r5⟩ := rl1 r2
      obtain ⟨v3, vs, rfl, r6, r7⟩ := rl1 r5
      cases rl0 r7
      cases ri r3
      cases ri r4
      cases ri r6
      refine ⟨i, j, -1, _, rfl, RgC.neg (by omega) (by omega) (by omega) (by omega), s1 _ _ _ n1 ?_⟩
      intro w' n _ k
      refine ⟨fun hl => ?_, fun d hd => ?_⟩
      · show (i - j).toNat ≤ k
        simpa using hl
      · rw [List.getElem?_map] at hd
        obtain ⟨k2, ek, rfl⟩ := Option.map_eq_some_iff.mp hd
        obtain ⟨hk, ek⟩ := List.getElem?_eq_some_iff.mp ek
        rw [List.getElem_range] at ek
        subst ek
        have hk' : k < (i - j).toNat := by simpa using hk
        refine ⟨hk', fun y H' hy => ?_⟩
        obtain ⟨rfl, rfl⟩ := hy
        refine ⟨w'.ρ, Nx.refl n.ok, ?_⟩
        rw [show i - (k : Int) = i + (k : Int) * -1 by omega]
        exact wi
    · exact s1.elim
  · exact s1.elim
theorem se_fmt (ha : SimE K Φ W ta a) : SimE K Φ W (tFmt ta) (mOp1 oFmt a) := by
  intro w σ env Q ok φ sl s
  refine ha.go ok φ sl s fun w1 d v n1 ok1 φ1 sl1 r1 s1 => ?_
  obtain ⟨x, h', e, p⟩ := ofP_sat s1
  unfold oFmt at e
  split at e
  · split at e
    · rename_i c
      cases e
      cases rs r1
      exact .inl ⟨_, rfl, c, p _ _ _ n1 ws⟩
    · cases e
  · split at e
    · rename_i c
      cases e
      cases ri r1
      exact .inr ⟨_, rfl, c, p _ _ _ n1 ws⟩
    · cases e
  · cases e
inductive SimJ (K : PySem.W.Frag) (Φ : Ph K) (W : WX) : List TE → List EM → Prop
  | nil : SimJ K Φ W [] []
  | cons {t : TE} {a : EM} {ts : List TE} {as : List EM} (h : SimE K Φ W t a) (r : SimJ K Φ W ts as) : SimJ K Φ W (t :: ts) (a :: as)
theorem se_js {ts : List TE} {as : List EM} (h : SimJ K Φ W ts as) : ∀ acc, SimE K Φ W (fun σ H Q => tJs ts acc σ H fun out H1 => Q (.str out) H1) (mJs as acc) := by
  induction h with
  | nil => exact fun acc w σ env Q ok φ sl s => s _ _ _ (Nx.refl ok) ws
  | @cons t a ts as h r ih =>
    intro acc w σ env Q ok φ sl s
    refine h.go ok φ sl s fun w1 d v n1 ok1 φ1 sl1 r1 s1 => ?_
    unfold kJs at s1
    split at s1
    · rename_i y
      split at s1
      · rename_i c
        cases rs r1
        exact ⟨y, rfl, c, ih (acc ++ y) w1 σ env Q ok1 φ1 sl1 (s1.mono (PV.tr n1) fun _ _ _ z => z)⟩
      · exact s1.elim
    · exact s1.elim
end
end M

/-! M12: calls without arguments -/
namespace M
open PySem PySem.Spec PyProof.Rows L2 Z
section
variable {m : Bool} {X : Cx} {W : WX} {k j : Nat} {p pos apos : Pos} {g C : Addr} {ps : List Str} {sp : Sp}
theorem z_make0 {x : Str} (cz : Ce true X W k) (Mm : Mk X.K C g) (F : MFn X.prog X.w X.K X.mg X.base j g ps sp) (hj : j + 1 ≤ k) (hm : X.mg x = some (.ref C)) (hg : Gl X x := by rfl) (hdb : (x == ("__debug__" : Str)) = false := by decide) :
    PE X (.Call (.Name x p) [] [] pos) (zMake C sp W tNil) := by
  have hr : Room (j + 1) X.A := cz.room.mono hj
  constructor
  intro pins s1 σ H1 Q I1 q
  refine wpAny_Call_Name_kw (ld_glob I1 hg hm ?_ hdb)
  refine PySem.W.callWith_K0 I1.kIn Mm.kp ?_
  have q : ZMake H1 C fun x H2 => ZCall sp [.ref x] H2 (fun v H3 => v = .non ∧ Q (.ref x) H3) fun cls d H' => W cls d σ H' := q
  have q2 := (q.out (s1.heap.objs.size + 1) s1.heap.objs.size (I1.hok.fresh (Nat.le_succ _)) (I1.hok.fresh (Nat.le_refl _)) (Nat.ne_of_lt (Nat.lt_succ_self _))).out
  have I2 := Inv.made (C := C) I1
  refine wpAny_call (make_map (f := g) I1.kIn Mm.makes Mm.init (beq_iff_eq.mp Mm.fn) (codeAny_mono (mrun F (hr.make C [] []) (I2.env0.make C [] []) cz.tk I2 (.cons (show L2.RelV (.ref (s1.heap.objs.size + 1)) (.ref (s1.heap.objs.size + 1)) from rfl) .nil) q2) fun r2 s2 z => ?_))
  cases r2 with
  | error er => exact z
  | ok fl =>
    cases fl <;> first | exact z.elim | skip
    obtain ⟨v, H3, I3, rv, ev, q3⟩ := z
    subst ev
    exact ⟨rv, .ref (s1.heap.objs.size + 1), H3, I3, rfl, q3⟩
end
end M

/-! M13: evaluation of the further operations -/
namespace M
open PySem PySem.Spec PyProof.Rows L2 Z
def repAt (o : Option (List D)) (k : Int) (h : Mh) : Option (D × Mh) := match o with
  | some xs => if (-9223372036854775808 ≤ k ∧ k < 9223372036854775808) ∧ xs.length * k.toNat ≤ sizeLine then some (.ref h.length, h ++ [.lst (List.replicate k.toNat xs).flatten]) else none
  | none => none
def tupAt (o : Option (List D)) (h : Mh) : Option (D × Mh) := match o with
  | some xs => some (.tup xs, h)
  | none => none
def insAt (o : Option (List D)) (a : Nat) (i : Int) (y : D) (h : Mh) : Option (D × Mh) := match o with
  | some xs => if xs.length < sizeLine ∧ 0 ≤ i ∧ i < 9223372036854775808 then some (.non, h.set a (.lst (xs.take i.toNat ++ [y] ++ xs.drop i.toNat))) else none
  | none => none
def clrAt (o : Option (List D)) (a : Nat) (h : Mh) : Option (D × Mh) := match o with
  | some xs => some (.non, h.set a (.lst []))
  | none => none
def popIB (o : Option D) (a : Nat) (xs : List D) (i : Int) (h : Mh) : Option (D × Mh) := match o with
  | some y => some (y, h.set a (.lst (xs.eraseIdx i.toNat)))
  | none => none
def popIAt (o : Option (List D)) (a : Nat) (i : Int) (h : Mh) : Option (D × Mh) := match o with
  | some xs => if 0 ≤ i ∧ i < 9223372036854775808 then popIB (xs[i.toNat]?) a xs i h else none
  | none => none
def extAt (o p : Option (List D)) (a : Nat) (h : Mh) : Option (D × Mh) := match o, p with
  | some xs, some ys => if xs.length + ys.length ≤ sizeLine then some (.non, h.set a (.lst (xs ++ ys))) else none
  | _, _ => none
section
variable {i j k : Int} {a b : Nat} {x y z : D} {s t : Str} {ds es : List D} {h : Mh}
theorem e_iadd : oIAdd (.int i) (.int j) h = some (.int (i + j), h) := rfl
theorem e_isub : oISub (.int i) (.int j) h = some (.int (i - j), h) := rfl
theorem e_iaddS : oIAddS (.str s) (.str t) h = if s.length + t.length ≤ sizeLine then some (.str (s ++ t), h) else none := rfl
theorem e_rep : oRep (.ref a) (.int k) h = repAt (lstAt h a) k h := by
  show ((lstAt h a).bind fun xs => if (-9223372036854775808 ≤ k ∧ k < 9223372036854775808) ∧ xs.length * k.toNat ≤ sizeLine then newO (.lst (List.replicate k.toNat xs).flatten) h else none) = _
  cases lstAt h a <;> rfl
theorem e_tup_l : oTuple [.ref a] h = tupAt (lstAt h a) h := by
  show ((lstAt h a).map fun xs => (D.tup xs, h)) = _
  cases lstAt h a <;> rfl
theorem e_tup_t : oTuple [.tup ds] h = some (.tup ds, h) := rfl
theorem e_tup_c : oTuple [.scr ds] h = some (.tup ds, h) := rfl
theorem e_insert : oInsert (.ref a) [.int i, y] h = insAt (lstAt h a) a i y h := by
  show ((lstAt h a).bind fun xs => _) = _
  cases lstAt h a <;> rfl
theorem e_clear : oClear (.ref a) [] h = clrAt (lstAt h a) a h := by
  show ((lstAt h a).map fun xs => _) = _
  cases lstAt h a <;> rfl
theorem e_popAt : oPopAt (.ref a) [.int i] h = popIAt (lstAt h a) a i h := by
  show ((lstAt h a).bind fun xs => if 0 ≤ i ∧ i < 9223372036854775808 then (xs[i.toNat]?).map fun y => (y, h.set a (.lst (xs.eraseIdx i.toNat))) else none) = _
  cases lstAt h a with
  | none => rfl
  | some xs =>
    show (if 0 ≤ i ∧ i < 9223372036854775808 then (xs[i.toNat]?).map fun y => (y, h.set a (.lst (xs.eraseIdx i.toNat))) else none) = (if 0 ≤ i ∧ i < 9223372036854775808 then popIB (xs[i.toNat]?) a xs i h else none)
    cases xs[i.toNat]? <;> rfl
theorem e_extend : oExtend (.ref a) [.ref b] h = extAt (lstAt h a) (lstAt h b) a h := by
  show ((lstAt h a).bind fun xs => (lstAt h b).bind fun ys => _) = _
  cases lstAt h a with
  | none => rfl
  | some xs => cases lstAt h b <;> rfl
theorem rng2_i : kRng2 [.int i, .int j] h = if (-4611686018427387904 ≤ i ∧ i < 4611686018427387904) ∧ -4611686018427387904 ≤ j ∧ j < 4611686018427387904 then .ok ⟨none, (List.range (j - i).toNat).map fun k => .int (i + (k : Nat))⟩ h else .no := rfl
theorem rng3_i : kRng3 [.int i, .int j, .int k] h = if ((-4611686018427387904 ≤ i ∧ i < 4611686018427387904) ∧ -4611686018427387904 ≤ j ∧ j < 4611686018427387904) ∧ k = -1 then .ok ⟨none, (List.range (i - j).toNat).map fun k => .int (i - (k : Nat))⟩ h else .no := rfl
theorem fmt_s : oFmt (.str s) h = if s.length ≤ sizeLine then some (.str s, h) else none := rfl
theorem fmt_i : oFmt (.int i) h = if i.natAbs.log2 < 1920 then some (.str (toString i), h) else none := rfl
theorem str_empty_app : Str.empty ++ s = s := by
  cases s with
  | mk c =>
    show (⟨#[] ++ c⟩ : Str) = ⟨c⟩
    simp
theorem str_app_assoc {s t u : Str} : s ++ t ++ u = s ++ (t ++ u) := by
  cases s with
  | mk a => cases t with
    | mk b => cases u with
      | mk c =>
        show (⟨a ++ b ++ c⟩ : Str) = ⟨a ++ (b ++ c)⟩
        rw [Array.append_assoc]
theorem str_app_len {s t : Str} : (s ++ t).length = s.length + t.length := by
  show (s.cps ++ t.cps).size = s.cps.size + t.cps.size
  exact Array.size_append
end
/-- a loop over a mapped range -/
theorem loop_map {n : Nat} {f : Nat → D} {all : List D} {g : GM} {body : SM} {env : Mv} {h : Mh} {P : So → Mh → Prop} {E : Er → Mv → Mh → Prop} (I : Nat → Mv → Mh → Prop) (hi : I 0 env h)
    (hs : ∀ (i : Nat) e h, i < n → I i e h → (g (f i) e h).sat (fun e1 h1 => (body e1 h1).sat (LoopP I P i) E) E) (hd : ∀ e h, I n e h → P (.nx e) h) : (mLoop none all g body ((List.range n).map f) env h).sat P E := by
  refine loop_inv I (fun _ _ _ _ b e => by cases e) hi (fun i d e h hd hI => ?_) fun e h hI => hd e h (by simpa using hI)
  rw [List.getElem?_map] at hd
  obtain ⟨k, ek, rfl⟩ := Option.map_eq_some_iff.mp hd
  obtain ⟨hk, ek⟩ := List.getElem?_eq_some_iff.mp ek
  rw [List.getElem_range] at ek
  subst ek
  exact hs i e h (by simpa using hk) hI
def Mnx (I : Mv → Mh → Prop) : So → Mh → Prop
  | .nx e, h => I e h
  | _, _ => False
end M

namespace K14
open PySem PySem.Spec PyProof.Rows L2 Z M
def sub_BadReach (c : String) : Option Bool := if c = "BadKin" then some false else if c = "BadReach" then some true else none
def sub_ForkError (c : String) : Option Bool := if c = "BadKin" then some true else if c = "BadReach" then some true else none
def isc_BadCell (c : String) : Option Bool := if c = "BadKin" then some false else if c = "BadReach" then some false else none
def isc_BadKin (c : String) : Option Bool := if c = "BadKin" then some true else if c = "BadReach" then some false else none
def isc_BadReach (c : String) : Option Bool := if c = "BadKin" then some false else if c = "BadReach" then some true else none
def isc_ValueError (c : String) : Option Bool := if c = "BadKin" then some true else if c = "BadReach" then some true else none
def xfc_number (c : String) : Bool := decide (c = "BadReach")
def xfc_reason (c : String) : Bool := decide (c = "BadKin") || decide (c = "BadReach")
def tab_is_Kin : Tag → Option Bool
  | .o c => if c = "Kin" then some true else none
  | .b _ => none
noncomputable def b_fits_side : SM := (sSeq (sIf (mOr (mTest (mOp oEq (mVar 0) (mC (.int 0)))) (mTest (mOp oEq (mVar 1) (mC (.int 0))))) (sRet (mOp oEq (mVar 2) (mC (.str "line")))) sNext) (sRet (mOrV (mOp oEq (mVar 2) (mC (.str "elder"))) (mOp oEq (mVar 2) (mC (.str "younger"))))))
noncomputable def f_fits_side : FM := mFun 3 3 b_fits_side
noncomputable def b_demand_reach : SM := (sIf (mNot (mTest (mChain oLe oLe (mC (.int 1)) (mVar 0) (mC (.int 4))))) (sRaise "BadReach" 1 [("number", .par 0), ("reason", .cst "bad reach")] (mCons (mVar 0) mNil)) sNext)
noncomputable def f_demand_reach : FM := mFun 1 1 b_demand_reach
noncomputable def b_all_cells : SM := (sSeq (sDrop (mCall f_demand_reach (mCons (mVar 0) mNil))) (sSeq (sAsg (mApp mkLst mNil) (gName 1)) (sSeq (sFor (M.iRng2 (mCons (mC (.int 1)) (mCons (mOp oAdd (mOp oMul (mC (.int 2)) (mVar 0)) (mC (.int 1))) mNil))) (gName 2) (sFor (iRng1 (mCons (mOp oAdd (mVar 0) (mC (.int 1))) mNil)) (gName 3) (sSeq (sAsg (mOp oSub (mVar 2) (mVar 3)) (gName 4)) (sSeq (sIf (mOr (mTest (mOp oLt (mVar 4) (mC (.int 0)))) (mTest (mOp oGt (mVar 4) (mVar 0)))) sCont sNext) (sIf (mOr (mTest (mOp oEq (mVar 3) (mC (.int 0)))) (mTest (mOp oEq (mVar 4) (mC (.int 0))))) (sDrop (mMethT "list" oAppend (mVar 1) (mCons (mKin (mCons (mVar 3) (mCons (mVar 4) (mCons (mC (.str "line")) mNil)))) mNil))) (sSeq (sDrop (mMethT "list" oAppend (mVar 1) (mCons (mKin (mCons (mVar 3) (mCons (mVar 4) (mCons (mC (.str "elder")) mNil)))) mNil))) (sDrop (mMethT "list" oAppend (mVar 1) (mCons (mKin (mCons (mVar 3) (mCons (mVar 4) (mCons (mC (.str "younger")) mNil)))) mNil))))))))) (sRet (mVar 1)))))
noncomputable def f_all_cells : FM := mFun 5 1 b_all_cells
noncomputable def b__law_base : SM := (sSeq (sTryG [(sub_ForkError, some 1, fun x => (sRet (mAndV (mIsE x isc_ValueError) (mIsE x isc_BadReach))))] (sDrop (mCall f_all_cells (mCons (mVar 0) mNil)))) (sRet (mC (.bl false))))
noncomputable def f__law_base : FM := mFun 2 1 b__law_base
noncomputable def b__law_is_number : SM := (sRet (mAndV (mOp1 (oIsI (tabT .int)) (mVar 0)) (mNotV (mOp1 (oIsI (tabT .bool)) (mVar 0)))))
noncomputable def f__law_is_number : FM := mFun 1 1 b__law_is_number
noncomputable def b__law_same (f : FM) : SM := (sSeq (sIf (mTest (mOp oIsN (mVar 1) (mC .non))) (sRet (mOp oIsN (mVar 0) (mC .non))) sNext) (sSeq (sIf (mT (mOp1 (oIsI (tabT .bool)) (mVar 1))) (sRet (mAndV (mOp1 (oIsI (tabT .bool)) (mVar 0)) (mOp oEq (mVar 0) (mVar 1)))) sNext) (sSeq (sIf (mT (mOp1 (oIsI (tabT .int)) (mVar 1))) (sRet (mAndV (mCall f__law_is_number (mCons (mVar 0) mNil)) (mOp oEq (mVar 0) (mVar 1)))) sNext) (sSeq (sIf (mT (mOp1 (oIsI (tabT .str)) (mVar 1))) (sRet (mAndV (mOp1 (oIsI (tabT .str)) (mVar 0)) (mOp oEq (mVar 0) (mVar 1)))) sNext) (sSeq (sIf (mT (mOp1 (oIsI (tabT .list)) (mVar 1))) (sIf (mOr (mNot (mT (mOp1 (oIsI (tabT .list)) (mVar 0)))) (mTest (mOp oNe (mApp oLen (mCons (mVar 0) mNil)) (mApp oLen (mCons (mVar 1) mNil))))) (sRet (mC (.bl false))) sNext) (sIf (mOr (mNot (mT (mOp1 (oIsI (tabT .tuple)) (mVar 1)))) (mOr (mNot (mT (mOp1 (oIsI (tabT .tuple)) (mVar 0)))) (mTest (mOp oNe (mApp oLen (mCons (mVar 0) mNil)) (mApp oLen (mCons (mVar 1) mNil)))))) (sRet (mC (.bl false))) sNext)) (sSeq (sFor (iRng1 (mCons (mApp oLen (mCons (mVar 1) mNil)) mNil)) (gName 2) (sIf (mNot (mT (mCall f (mCons (mOp oIx (mVar 0) (mVar 2)) (mCons (mOp oIx (mVar 1) (mVar 2)) mNil))))) (sRet (mC (.bl false))) sNext)) (sRet (mC (.bl true)))))))))
noncomputable def f__law_same : Nat → FM
  | 0 => fun _ _ => .no
  | n + 1 => mFun 3 2 (b__law_same (f__law_same n))
theorem n__law_same : ∀ n ds h, ds.length ≠ 2 → f__law_same n ds h = .no
  | 0, _, _, _ => rfl
  | n + 1, _, _, e => mFun_n _ _ e
noncomputable def b__law_refused : SM := (sSeq (sTryG [(sub_BadReach, some 1, fun x => (sSeq (sIf (mOr (mT (mIsE x isc_BadCell)) (mT (mIsE x isc_BadKin))) (sRet (mC (.bl false))) sNext) (sRet (mCall (f__law_same 6) (mCons (mApp mkLst (mCons (mXfE xfc_number x "number") (mCons (mXfE xfc_reason x "reason") mNil))) (mCons (mApp mkLst (mCons (mVar 0) (mCons (mC (.str "bad reach")) mNil))) mNil)))))), (sub_ForkError, none, fun x => (sRet (mC (.bl false))))] (sDrop (mCall f_all_cells (mCons (mVar 0) mNil)))) (sRet (mC (.bl false))))
noncomputable def f__law_refused : FM := mFun 2 1 b__law_refused
noncomputable def b__law_is_kin : SM := (sSeq (sIf (mNot (mT (mOp1 (oIsI tab_is_Kin) (mVar 0)))) (sRet (mC (.bl false))) sNext) (sRet (mCall (f__law_same 6) (mCons (mApp mkLst (mCons (mOp1 (oFld "Kin" "up") (mVar 0)) (mCons (mOp1 (oFld "Kin" "down") (mVar 0)) (mCons (mOp1 (oFld "Kin" "side") (mVar 0)) mNil)))) (mCons (mApp mkLst (mCons (mOp oIx (mVar 1) (mC (.int 0))) (mCons (mOp oIx (mVar 1) (mC (.int 1))) (mCons (mOp oIx (mVar 1) (mC (.int 2))) mNil)))) mNil)))))
noncomputable def f__law_is_kin : FM := mFun 2 2 b__law_is_kin
noncomputable def b__law_are_kins : SM := (sSeq (sIf (mOr (mNot (mT (mOp1 (oIsI (tabT .list)) (mVar 0)))) (mTest (mOp oNe (mApp oLen (mCons (mVar 0) mNil)) (mApp oLen (mCons (mVar 1) mNil))))) (sRet (mC (.bl false))) sNext) (sSeq (sFor (iRng1 (mCons (mApp oLen (mCons (mVar 1) mNil)) mNil)) (gName 2) (sIf (mNot (mT (mCall f__law_is_kin (mCons (mOp oIx (mVar 0) (mVar 2)) (mCons (mOp oIx (mVar 1) (mVar 2)) mNil))))) (sRet (mC (.bl false))) sNext)) (sRet (mC (.bl true)))))
noncomputable def f__law_are_kins : FM := mFun 3 2 b__law_are_kins
noncomputable def b__law_kin : SM := (sRet (mKin (mCons (mOp oIx (mVar 0) (mC (.int 0))) (mCons (mOp oIx (mVar 0) (mC (.int 1))) (mCons (mOp oIx (mVar 0) (mC (.int 2))) mNil)))))
noncomputable def f__law_kin : FM := mFun 1 1 b__law_kin
noncomputable def b__law_cell_text : SM := (sSeq (sAsg (mOp oIx (mVar 0) (mC (.int 2))) (gName 2)) (sSeq (sFor (iSeq (mApp mkLst (mCons (mOp oIx (mVar 0) (mC (.int 0))) (mCons (mOp oIx (mVar 0) (mC (.int 1))) mNil)))) (gName 3) (sSeq (sAsg (mOp oAdd (mOp oAdd (mVar 2) (mC (.str " "))) (mApp oStr (mCons (mVar 3) mNil))) (gName 2)) (sIf (mTest (mOp oEq (mVar 3) (mVar 1))) (sAsg (mOp oAdd (mVar 2) (mC (.str "+"))) (gName 2)) sNext))) (sRet (mVar 2))))
noncomputable def f__law_cell_text : FM := mFun 4 2 b__law_cell_text
noncomputable def b_number_text : SM := (sSeq (sIf (mTest (mOp oEq (mVar 0) (mVar 1))) (sRet (mJs [(mOp1 oFmt (mVar 0)), (mC (.str "+"))] Str.empty)) sNext) (sRet (mOp1 oFmt (mVar 0))))
noncomputable def f_number_text : FM := mFun 2 2 b_number_text
noncomputable def b_cell_text : SM := (sRet (mJs [(mOp1 oFmt (mOp1 (oFld "Kin" "side") (mVar 0))), (mC (.str " ")), (mOp1 oFmt (mCall f_number_text (mCons (mOp1 (oFld "Kin" "up") (mVar 0)) (mCons (mVar 1) mNil)))), (mC (.str " ")), (mOp1 oFmt (mCall f_number_text (mCons (mOp1 (oFld "Kin" "down") (mVar 0)) (mCons (mVar 1) mNil))))] Str.empty))
noncomputable def f_cell_text : FM := mFun 2 2 b_cell_text
noncomputable def b__law_sides : SM := (sSeq (sIf (mOr (mTest (mOp oEq (mVar 0) (mC (.int 0)))) (mTest (mOp oEq (mVar 1) (mC (.int 0))))) (sRet (mApp mkLst (mCons (mC (.str "line")) mNil))) sNext) (sRet (mApp mkLst (mCons (mC (.str "elder")) (mCons (mC (.str "younger")) mNil)))))
noncomputable def f__law_sides : FM := mFun 2 2 b__law_sides
noncomputable def b__law_cells : SM := (sSeq (sAsg (mApp mkLst mNil) (gName 1)) (sSeq (sFor (M.iRng2 (mCons (mC (.int 1)) (mCons (mOp oAdd (mOp oMul (mC (.int 2)) (mVar 0)) (mC (.int 1))) mNil))) (gName 2) (sFor (iRng1 (mCons (mOp oAdd (mVar 0) (mC (.int 1))) mNil)) (gName 3) (sIf (mTest (mChain oLe oLe (mC (.int 0)) (mOp oSub (mVar 2) (mVar 3)) (mVar 0))) (sFor (iSeq (mCall f__law_sides (mCons (mVar 3) (mCons (mOp oSub (mVar 2) (mVar 3)) mNil)))) (gName 4) (sDrop (mMethT "list" oAppend (mVar 1) (mCons (mApp mkTup (mCons (mVar 3) (mCons (mOp oSub (mVar 2) (mVar 3)) (mCons (mVar 4) mNil)))) mNil)))) sNext))) (sRet (mVar 1))))
noncomputable def f__law_cells : FM := mFun 5 1 b__law_cells
noncomputable def b__law_listed : SM := (sSeq (sAsg (mCall f__law_cells (mCons (mVar 0) mNil)) (gName 1)) (sSeq (sAsg (mCall f_all_cells (mCons (mVar 0) mNil)) (gName 2)) (sSeq (sIf (mOr (mNot (mT (mCall f__law_are_kins (mCons (mVar 2) (mCons (mVar 1) mNil))))) (mTest (mOp oNe (mApp oLen (mCons (mVar 1) mNil)) (mOp oAdd (mOp oMul (mC (.int 2)) (mVar 0)) (mOp oMul (mOp oMul (mC (.int 2)) (mVar 0)) (mVar 0)))))) (sRet (mC (.bl false))) sNext) (sSeq (sFor (iRng1 (mCons (mApp oLen (mCons (mVar 1) mNil)) mNil)) (gName 3) (sIf (mNot (mT (mCall (f__law_same 6) (mCons (mCall f_cell_text (mCons (mOp oIx (mVar 2) (mVar 3)) (mCons (mVar 0) mNil))) (mCons (mCall f__law_cell_text (mCons (mOp oIx (mVar 1) (mVar 3)) (mCons (mVar 0) mNil))) mNil))))) (sRet (mC (.bl false))) sNext)) (sSeq (sDrop (mMethT "list" oPopAt (mVar 2) (mCons (mC (.int 0)) mNil))) (sSeq (sDrop (mMethT "list" oAppend (mVar 2) (mCons (mCall f__law_kin (mCons (mApp mkTup (mCons (mC (.int 0)) (mCons (mC (.int 0)) (mCons (mC (.str "line")) mNil)))) mNil)) mNil))) (sRet (mCall f__law_are_kins (mCons (mCall f_all_cells (mCons (mVar 0) mNil)) (mCons (mVar 1) mNil))))))))))
noncomputable def f__law_listed : FM := mFun 4 1 b__law_listed
noncomputable def b__law_draw : SM := (sSeq (sIf (mTest (mOp oEq (mOp oIx (mVar 0) (mC (.int 3))) (mC (.int 0)))) (sSeq (sIf (mTest (mOp oGe (mOp oIx (mVar 0) (mC (.int 1))) (mApp oLen (mCons (mOp oIx (mVar 0) (mC (.int 0))) mNil)))) (sRet (mC (.int 0))) sNext) (sSeq (sAsg (mOp oIx (mOp oIx (mVar 0) (mC (.int 0))) (mOp oIx (mVar 0) (mC (.int 1)))) (gSubF oSetIx (mVar 0) (mC (.int 2)))) (sSeq (sAsg (mOp oAdd (mOp oIx (mVar 0) (mC (.int 1))) (mC (.int 1))) (gSubF oSetIx (mVar 0) (mC (.int 1)))) (sSeq (sAsg (mC (.int 10)) (gSubF oSetIx (mVar 0) (mC (.int 3)))) (sSeq (sAsg (mC (.int 0)) (gSubF oSetIx (mVar 0) (mC (.int 4)))) (sIf (mTest (mOp oGe (mOp oIx (mVar 0) (mC (.int 2))) (mOp oPow (mC (.int 10)) (mC (.int 18))))) (sSeq (sAsg (mC (.int 60)) (gSubF oSetIx (mVar 0) (mC (.int 3)))) (sAsg (mC (.int 1)) (gSubF oSetIx (mVar 0) (mC (.int 4))))) sNext)))))) sNext) (sSeq (sAsg (mOp oSub (mOp oIx (mVar 0) (mC (.int 3))) (mC (.int 1))) (gSubF oSetIx (mVar 0) (mC (.int 3)))) (sSeq (sIf (mTest (mOp oEq (mOp oIx (mVar 0) (mC (.int 4))) (mC (.int 1)))) (sSeq (sAsg (mOp oMod (mApp oInt (mCons (mOp oIx (mVar 0) (mC (.int 2))) mNil)) (mVar 1)) (gName 2)) (sSeq (sAsg (mOp oFdv (mApp oInt (mCons (mOp oIx (mVar 0) (mC (.int 2))) mNil)) (mVar 1)) (gSubF oSetIx (mVar 0) (mC (.int 2)))) (sSeq (sIf (mTest (mOp oEq (mOp oIx (mVar 0) (mC (.int 2))) (mC (.int 0)))) (sAsg (mC (.int 0)) (gSubF oSetIx (mVar 0) (mC (.int 3)))) sNext) (sRet (mVar 2))))) sNext) (sSeq (sAsg (mOp oMod (mApp oInt (mCons (mOp oAdd (mOp oAdd (mOp oMul (mOp oIx (mVar 0) (mC (.int 2))) (mC (.int 48271))) (mOp oMul (mOp oIx (mVar 0) (mC (.int 3))) (mC (.int 69621)))) (mC (.int 12345))) mNil)) (mC (.int 2147483647))) (gName 3)) (sSeq (sAsg (mOp oMod (mApp oInt (mCons (mOp oAdd (mOp oAdd (mOp oMul (mVar 3) (mC (.int 16807))) (mOp oFdv (mVar 3) (mC (.int 127773)))) (mC (.int 3))) mNil)) (mC (.int 1000003))) (gName 3)) (sRet (mOp oMod (mApp oInt (mCons (mVar 3) mNil)) (mVar 1))))))))
noncomputable def f__law_draw : FM := mFun 4 2 b__law_draw
noncomputable def b__law_start : SM := (sRet (mApp mkLst (mCons (mApp oList (mCons (mVar 0) mNil)) (mCons (mC (.int 0)) (mCons (mC (.int 0)) (mCons (mC (.int 0)) (mCons (mC (.int 0)) mNil)))))))
noncomputable def f__law_start : FM := mFun 1 1 b__law_start
noncomputable def b_law : SM := (sSeq (sAsg (mCall f__law_start (mCons (mVar 0) mNil)) (gName 1)) (sSeq (sAsg (mOp oAdd (mC (.int 1)) (mCall f__law_draw (mCons (mVar 1) (mCons (mC (.int 4)) mNil)))) (gName 2)) (sSeq (sAsg (mCall f__law_cells (mCons (mVar 2) mNil)) (gName 3)) (sSeq (sAsg (mOp oIx (mVar 3) (mCall f__law_draw (mCons (mVar 1) (mCons (mApp oLen (mCons (mVar 3) mNil)) mNil)))) (gName 4)) (sSeq (sAsg (mOp oSub (mCall f__law_draw (mCons (mVar 1) (mCons (mC (.int 16)) mNil))) (mC (.int 2))) (gName 5)) (sSeq (sIf (mTest (mOp oEq (mCall f__law_draw (mCons (mVar 1) (mCons (mC (.int 4)) mNil))) (mC (.int 1)))) (sAsg (mCall f__law_draw (mCons (mVar 1) (mCons (mOp oPow (mC (.int 10)) (mC (.int 9))) mNil))) (gName 5)) sNext) (sSeq (sIf (mNot (mT (mCall (f__law_same 6) (mCons (mCall f_cell_text (mCons (mCall f__law_kin (mCons (mVar 4) mNil)) (mCons (mVar 2) mNil))) (mCons (mCall f__law_cell_text (mCons (mVar 4) (mCons (mVar 2) mNil))) mNil))))) (sRet (mC (.bl false))) sNext) (sSeq (sFor (iSeq (mApp mkLst (mCons (mVar 2) (mCons (mC (.int 1)) (mCons (mC (.int 2)) (mCons (mC (.int 3)) (mCons (mC (.int 4)) mNil))))))) (gName 6) (sIf (mNot (mT (mCall f__law_listed (mCons (mVar 6) mNil)))) (sRet (mC (.bl false))) sNext)) (sSeq (sFor (iSeq (mApp mkLst (mCons (mVar 5) (mCons (mOp oSub (mC (.int 0)) (mVar 5)) (mCons (mC (.int 0)) (mCons (mC (.int 5)) mNil)))))) (gName 6) (sIf (mAnd (mNot (mTest (mChain oLe oLe (mC (.int 1)) (mVar 6) (mC (.int 4))))) (mNot (mT (mCall f__law_refused (mCons (mVar 6) mNil))))) (sRet (mC (.bl false))) sNext)) (sRet (mAndV (mCall f__law_base (mCons (mOp oAdd (mC (.int 5)) (mVar 2)) mNil)) (mCall f__law_base (mCons (mOp oSub (mC (.int 0)) (mVar 2)) mNil)))))))))))))
noncomputable def f_law : FM := mFun 7 1 b_law
end K14

namespace K14
open PySem PySem.Spec PyProof.Rows L2 Z M
local macro_rules | `(tactic| walk_at "ev") => `(tactic| try simp -implicitDefEqProofs only [mFun, kFin, mOp1, kOp1, mOp, kOpA, kOpB, mVar, mC, mNil, mCons, kConsA, kConsB, mApp, kApp, mMethT, kMethA, kMethB, mTest, kTest, mNot, kNot, mAnd, kAnd, mOr, kOr, mAndV, kAndV, kAndV2, mOrV, kOrV, kOrV2, mNotV, kNotV, kNotV2, mIfE, kIfE, mChain, kChA, kChB, kChC, kChD, mT, kT, mNone, mPart, kPart, mSl, kSlA, kSlB, kSlC, sAsg, kAsg, kNx, M.gName, gSubF, kSubA, kSubB, kSubC, kAugA, kAugB, kAugC, sIf, kIf, sNext, sBreak, sCont, sRet, kRet, sRetN, sDrop, kDrop, sSeq, seqOn, goOn, sFor, kFor, iSeq, M.iRng1, sRaise, kRaise, sTry, tryOn, tryEr, kCut, So.cut, sTryG, tryG, hdsEr, suRun, mCall, kCall, mMth, kMthA, kMthB, mPrp, kPrp, mUnO, kUnO, mBinI, kBinIA, kBinIB, mMake, kMakeA, kMakeB, mKin, kKin, sFset, kFsetA, kFsetB, mXfE, mIsE, kLoop, bind_ok, bind_er, at_ok, at_er, ne_ok, ofP_some, ofO_some, sat_ok, sat_er, ixD, ixAt, slAt, lenAt, newAt, appAt, popB, popAt, revAt, setB, setAt, catAt, blO, blN, inAt, emptyAt, imL, oCn, tag_n, tag_b, tag_i, tag_s, tag_t, tag_c, tag_k, ins_k, tabT, isT, oB, oI, scD, seqOf, mkF, Src.dv, LoopP, repAt, tupAt, insAt, clrAt, popIB, popIAt, extAt, e_iadd, e_isub, e_iaddS, e_rep, e_tup_l, e_tup_t, e_tup_c, e_insert, e_clear, e_popAt, e_extend, M.iRng2, M.iRng3, rng2_i, rng3_i, fmt_s, fmt_i, str_empty_app, mJs, kJs, mLc, kLcI, kLcF, kLcE, kLcC, kLcG, mTrue, wipeM, List.take_zero, List.drop_zero,
  e_add_i, e_add_s, e_add_l, e_sub, e_mul, e_fdv, e_mod, e_pow, e_lt, e_le, e_gt, e_ge, e_eq_i, e_eq_s, e_eq_b, e_eq_nn, e_eq_ni, e_eq_in, e_eq_sn, e_eq_ns, e_eq_is, e_eq_si, e_ne_i, e_ne_s, e_ne_b, e_ne_ni, e_ne_in, e_isN, e_isNN, isNon_n, isNon_i, isNon_b, isNon_s, isNon_r, isNon_t, isNon_k, e_in, e_notin, in_l, in_t, e_neg, e_ix_l, e_ix_t, e_ix_c, e_ix_s, e_sl_s, e_sl_l, e_sl_t, e_len_s, e_len_l, e_len_t, e_len_c, e_int_i, e_int_s, e_str, e_list_l, e_list_t, e_list_c, e_min, e_max, e_abs, e_append, e_pop, e_reverse, e_find, e_ends, e_starts, e_split, e_tup, e_lst, e_setIx, tru_n, tru_b, tru_i, tru_s, tru_l, tru_t, ty_s, ty_l, e_isi, e_fld_k, e_kd, seqI_s, seqI_l, seqI_t, seqI_c, rng_i, aug_e,
  List.getElem?_cons_zero, List.getElem?_cons_succ, List.getElem?_nil, List.set_cons_zero, List.set_cons_succ, List.map_cons, List.map_nil, List.length_cons, List.length_nil, List.length_map, List.length_set, List.length_append, List.replicate_succ, List.replicate_zero, List.cons_append, List.nil_append, List.getD_cons_zero, List.getD_cons_succ, Nat.reduceAdd, Nat.reduceSub, Nat.reduceLT, Nat.reduceLeDiff, Nat.reduceEqDiff, Nat.zero_add, Int.reduceLT, Int.reduceLE, Int.reduceEq, Int.reduceNe, Int.reduceNeg, Int.reduceToNat, Option.map_some, Option.map_none, Option.bind_some, Option.bind_none, ix0, ix1, ix2, ix3, ix4, ix5, ix6, ix7, jx0, jx1, jx2, jx3, jx4, jx5, List.lookup_cons, List.lookup_nil, String.reduceEq, String.reduceBEq, String.reduceNe, decide_eq_true_eq, Bool.not_eq_true, Bool.not_eq_true', decide_eq_false_iff_not, Bool.not_true, Bool.not_false, beq_self_eq_true, Bool.and_true, Bool.true_and, Bool.or_true, Bool.true_or, Bool.false_or, Bool.or_false, Bool.and_false, Bool.false_and, Option.isSome_some, if_true, if_false, reduceIte, reduceCtorEq, and_self, and_true, true_and, not_true, not_false_eq_true, decide_true, decide_false, Bool.false_eq_true, List.isEmpty_cons, List.isEmpty_nil, sizeLine_eq, eq_self, lst_new, lst_set, List.set_set, nm_eq, String.reduceEq])
local macro_rules | `(tactic| walk_at "evs") => `(tactic| try simp -implicitDefEqProofs only [mFun, kFin, mOp1, kOp1, mOp, kOpA, kOpB, mVar, mC, mNil, mCons, kConsA, kConsB, mApp, kApp, mMethT, kMethA, kMethB, mTest, kTest, mNot, kNot, mAnd, kAnd, mOr, kOr, mAndV, kAndV, kAndV2, mOrV, kOrV, kOrV2, mNotV, kNotV, kNotV2, mIfE, kIfE, mChain, kChA, kChB, kChC, kChD, mT, kT, mNone, mPart, kPart, mSl, kSlA, kSlB, kSlC, sAsg, kAsg, kNx, M.gName, gSubF, kSubA, kSubB, kSubC, kAugA, kAugB, kAugC, sIf, kIf, sNext, sBreak, sCont, sRet, kRet, sRetN, sDrop, kDrop, sSeq, seqOn, goOn, sFor, kFor, iSeq, M.iRng1, sRaise, kRaise, sTry, tryOn, tryEr, kCut, So.cut, sTryG, tryG, hdsEr, suRun, mCall, kCall, mMth, kMthA, kMthB, mPrp, kPrp, mUnO, kUnO, mBinI, kBinIA, kBinIB, mMake, kMakeA, kMakeB, mKin, kKin, sFset, kFsetA, kFsetB, mXfE, mIsE, kLoop, bind_ok, bind_er, at_ok, at_er, ne_ok, ofP_some, ofO_some, sat_ok, sat_er, ixD, ixAt, slAt, lenAt, newAt, appAt, popB, popAt, revAt, setB, setAt, catAt, blO, blN, inAt, emptyAt, imL, oCn, tag_n, tag_b, tag_i, tag_s, tag_t, tag_c, tag_k, ins_k, tabT, isT, oB, oI, scD, seqOf, mkF, Src.dv, LoopP, repAt, tupAt, insAt, clrAt, popIB, popIAt, extAt, e_iadd, e_isub, e_iaddS, e_rep, e_tup_l, e_tup_t, e_tup_c, e_insert, e_clear, e_popAt, e_extend, M.iRng2, M.iRng3, rng2_i, rng3_i, fmt_s, fmt_i, str_empty_app, mJs, kJs, mLc, kLcI, kLcF, kLcE, kLcC, kLcG, mTrue, wipeM, List.take_zero, List.drop_zero,
  e_add_i, e_add_s, e_add_l, e_sub, e_mul, e_fdv, e_mod, e_pow, e_lt, e_le, e_gt, e_ge, e_eq_i, e_eq_s, e_eq_b, e_eq_nn, e_eq_ni, e_eq_in, e_eq_sn, e_eq_ns, e_eq_is, e_eq_si, e_ne_i, e_ne_s, e_ne_b, e_ne_ni, e_ne_in, e_isN, e_isNN, isNon_n, isNon_i, isNon_b, isNon_s, isNon_r, isNon_t, isNon_k, e_in, e_notin, in_l, in_t, e_neg, e_ix_l, e_ix_t, e_ix_c, e_ix_s, e_sl_s, e_sl_l, e_sl_t, e_len_s, e_len_l, e_len_t, e_len_c, e_int_i, e_int_s, e_str, e_list_l, e_list_t, e_list_c, e_min, e_max, e_abs, e_append, e_pop, e_reverse, e_find, e_ends, e_starts, e_split, e_tup, e_lst, e_setIx, tru_n, tru_b, tru_i, tru_s, tru_l, tru_t, ty_s, ty_l, e_isi, e_fld_k, e_kd, seqI_s, seqI_l, seqI_t, seqI_c, rng_i, aug_e,
  List.getElem?_cons_zero, List.getElem?_cons_succ, List.getElem?_nil, List.set_cons_zero, List.set_cons_succ, List.map_cons, List.map_nil, List.length_cons, List.length_nil, List.length_map, List.length_set, List.length_append, List.replicate_succ, List.replicate_zero, List.cons_append, List.nil_append, List.getD_cons_zero, List.getD_cons_succ, Nat.reduceAdd, Nat.reduceSub, Nat.reduceLT, Nat.reduceLeDiff, Nat.reduceEqDiff, Nat.zero_add, Int.reduceLT, Int.reduceLE, Int.reduceEq, Int.reduceNe, Int.reduceNeg, Int.reduceToNat, Option.map_some, Option.map_none, Option.bind_some, Option.bind_none, ix0, ix1, ix2, ix3, ix4, ix5, ix6, ix7, jx0, jx1, jx2, jx3, jx4, jx5, List.lookup_cons, List.lookup_nil, String.reduceEq, String.reduceBEq, String.reduceNe, decide_eq_true_eq, Bool.not_eq_true, Bool.not_eq_true', decide_eq_false_iff_not, Bool.not_true, Bool.not_false, beq_self_eq_true, Bool.and_true, Bool.true_and, Bool.or_true, Bool.true_or, Bool.false_or, Bool.or_false, Bool.and_false, Bool.false_and, Option.isSome_some, if_true, if_false, reduceIte, reduceCtorEq, and_self, and_true, true_and, not_true, not_false_eq_true, decide_true, decide_false, Bool.false_eq_true, List.isEmpty_cons, List.isEmpty_nil, sizeLine_eq, eq_self, lst_new, lst_set, List.set_set, nm_eq, String.reduceEq, *])
local macro_rules | `(tactic| walk_at "fo") => `(tactic| repeat (first | with_reducible refine Rs.sat_bind.mpr ?_ | with_reducible refine Rs.sat_at.mpr ?_))
local macro_rules | `(tactic| walk_at "e") => `(tactic| (walk_at "evs"; repeat (walk_at "ex"; walk_at "evs")))
theorem fits_side_eq {u d : Int} {s : Str} {h : Mh} : f_fits_side [.int u, .int d, .str s] h = .ok (.bl (decide (((u = 0 ∨ d = 0) ∧ s = "line") ∨ ((u ≠ 0 ∧ d ≠ 0) ∧ (s = "elder" ∨ s = "younger"))))) h := by
  unfold f_fits_side b_fits_side
  by_cases hu : u = 0
  · walk_at "e"
    simp
  by_cases hd : d = 0
  · walk_at "e"
    simp
  by_cases h1 : s = "elder"
  · subst h1
    walk_at "e"
    simp [hu, hd]
  · walk_at "e"
    simp [hu, hd, h1]
local macro_rules | `(tactic| walk_at "ex") => `(tactic| simp -implicitDefEqProofs only [fits_side_eq])

theorem demand_eq {r : Int} {h : Mh} (h0 : 1 ≤ r) (h1 : r ≤ 4) : f_demand_reach [.int r] h = .ok .non h := by
  unfold f_demand_reach b_demand_reach
  walk_at "evs"
theorem demand_bad {r : Int} {h : Mh} (n : ¬ (1 ≤ r ∧ r ≤ 4)) : f_demand_reach [.int r] h = .er ⟨"BadReach", [("number", .int r), ("reason", .str "bad reach")]⟩ [] h := by
  unfold f_demand_reach b_demand_reach
  by_cases h0 : 1 ≤ r
  · have h1 : ¬ r ≤ 4 := fun z => n ⟨h0, z⟩
    walk_at "evs"
  · walk_at "evs"

theorem is_number_i {i : Int} {h : Mh} : f__law_is_number [.int i] h = .ok (.bl true) h := by
  unfold f__law_is_number b__law_is_number
  walk_at "e"
local macro_rules | `(tactic| walk_at "ex") => `(tactic| simp -implicitDefEqProofs only [is_number_i])

/-- x and y are the same -/
def SameD (h : Mh) : Nat → D → D → Prop
  | n, .non, y => y = .non
  | n, .bl b, y => y = .bl b
  | n, .int i, y => y = .int i
  | n, .str s, y => y = .str s
  | n + 1, .ref a, .ref b => ∃ xs ys, lstAt h a = some xs ∧ lstAt h b = some ys ∧ xs.length = ys.length ∧ xs.length ≤ 10000 ∧ ∀ (i : Nat) x y, xs[i]? = some x → ys[i]? = some y → SameD h n x y
  | n + 1, .tup xs, .tup ys => xs.length = ys.length ∧ xs.length ≤ 10000 ∧ ∀ (i : Nat) x y, xs[i]? = some x → ys[i]? = some y → SameD h n x y
  | _, _, _ => False
theorem same_loop {h : Mh} {n : Nat} {x y : D} {xs ys : List D} (hx : seqOf h x = some xs) (hy : seqOf h y = some ys) (hl : xs.length = ys.length) (ih : ∀ x y, SameD h n x y → f__law_same (n + 1) [x, y] h = .ok (.bl true) h)
    (hs : ∀ (i : Nat) x y, xs[i]? = some x → ys[i]? = some y → SameD h n x y) (k : Nat) (hk : k ≤ ys.length) : ∀ o, (mLoop none ((List.range ys.length).map fun k => .int (k : Nat)) (M.gName 2) (sIf (mNot (mT (mCall (f__law_same (n + 1)) (mCons (mOp oIx (mVar 0) (mVar 2)) (mCons (mOp oIx (mVar 1) (mVar 2)) mNil))))) (sRet (mC (.bl false))) sNext) ((List.range ys.length).map fun k => .int (k : Nat)) [some x, some y, o] h).sat (fun o h' => h' = h ∧ ∃ z, o = .nx [some x, some y, z]) fun _ _ _ => False := by
  intro o
  have ixx : ∀ (i : Nat) d, xs[i]? = some d → oIx x (.int (i : Int)) h = some (d, h) := fun i d e => by
    have key : ∀ u, seqOf h u = some xs → oIx u (.int (i : Int)) h = some (d, h) := fun u hu => by
      cases u with
      | ref a => rw [e_ix_l, show lstAt h a = some xs from hu]; show ixD (atI xs _) h = _; rw [atI_nt, e]; rfl
      | tup z => cases hu; rw [e_ix_t, atI_nt, e]; rfl
      | scr z => cases hu; rw [e_ix_c, atI_nt, e]; rfl
      | _ => cases hu
    exact key x hx
  have iyy : ∀ (i : Nat) d, ys[i]? = some d → oIx y (.int (i : Int)) h = some (d, h) := fun i d e => by
    have key : ∀ u, seqOf h u = some ys → oIx u (.int (i : Int)) h = some (d, h) := fun u hu => by
      cases u with
      | ref a => rw [e_ix_l, show lstAt h a = some ys from hu]; show ixD (atI ys _) h = _; rw [atI_nt, e]; rfl
      | tup z => cases hu; rw [e_ix_t, atI_nt, e]; rfl
      | scr z => cases hu; rw [e_ix_c, atI_nt, e]; rfl
      | _ => cases hu
    exact key y hy
  refine loop_rng (n := ys.length) (fun i e h' => h' = h ∧ ∃ z, e = [some x, some y, z]) ⟨rfl, o, rfl⟩ (fun i e h' hi hh => ?_) fun e h' hh => ?_
  · obtain ⟨rfl, z, rfl⟩ := hh
    have e1 := List.getElem?_eq_getElem (l := xs) (i := i) (by omega)
    have e2 := List.getElem?_eq_getElem (l := ys) (i := i) hi
    have q1 := ixx i _ e1
    have q2 := iyy i _ e2
    have q3 := ih _ _ (hs i _ _ e1 e2)
    walk_at "evs"
    exact ⟨_, rfl⟩
  · obtain ⟨rfl, z, rfl⟩ := hh
    exact ⟨rfl, z, rfl⟩
theorem same_sq {h : Mh} {n : Nat} {x y : D} {xs ys : List D} (hx : seqOf h x = some xs) (hy : seqOf h y = some ys) (hl : xs.length = ys.length) (hb : xs.length ≤ 10000) (ih : ∀ x y, SameD h n x y → f__law_same (n + 1) [x, y] h = .ok (.bl true) h)
    (hs : ∀ (i : Nat) x y, xs[i]? = some x → ys[i]? = some y → SameD h n x y) : (sSeq (sFor (M.iRng1 (mCons (mApp oLen (mCons (mVar 1) mNil)) mNil)) (M.gName 2) (sIf (mNot (mT (mCall (f__law_same (n + 1)) (mCons (mOp oIx (mVar 0) (mVar 2)) (mCons (mOp oIx (mVar 1) (mVar 2)) mNil))))) (sRet (mC (.bl false))) sNext)) (sRet (mC (.bl true)))) [some x, some y, none] h = .ok (.rt (.bl true)) h := by
  have e : oLen [y] h = some (.int ys.length, h) := by
    cases y with
    | ref a => rw [e_len_l, show lstAt h a = some ys from hy]; rfl
    | tup z => cases hy; rfl
    | scr z => cases hy; rfl
    | _ => cases hy
  have hr : kRng1 [.int (ys.length : Nat)] h = .ok ⟨none, (List.range ys.length).map fun k => .int (k : Nat)⟩ h := by
    rw [rng_i, if_pos (by omega), Int.toNat_natCast]
  have lp := same_loop hx hy hl ih hs ys.length (Nat.le_refl _) none
  generalize hg : mLoop none ((List.range ys.length).map fun k => .int (k : Nat)) (M.gName 2) (sIf (mNot (mT (mCall (f__law_same (n + 1)) (mCons (mOp oIx (mVar 0) (mVar 2)) (mCons (mOp oIx (mVar 1) (mVar 2)) mNil))))) (sRet (mC (.bl false))) sNext) ((List.range ys.length).map fun k => .int (k : Nat)) [some x, some y, none] h = r at lp
  cases r with
  | ok o h' =>
    obtain ⟨rfl, z, rfl⟩ := lp
    clear ih hs hl hb hx hy
    walk_at "evs"
  | er _ _ _ => exact lp.elim
  | no => exact lp.elim
theorem same_top {h : Mh} {f : FM} {X Y : D} {n : Int} (ht : (tagOf h X = some (.b .tuple) ∧ tagOf h Y = some (.b .tuple)) ∨ (tagOf h X = some (.b .list) ∧ tagOf h Y = some (.b .list))) (n1 : M.isNon Y = false) (l1 : oLen [X] h = some (.int n, h)) (l2 : oLen [Y] h = some (.int n, h))
    (lp : (sSeq (sFor (M.iRng1 (mCons (mApp oLen (mCons (mVar 1) mNil)) mNil)) (M.gName 2) (sIf (mNot (mT (mCall f (mCons (mOp oIx (mVar 0) (mVar 2)) (mCons (mOp oIx (mVar 1) (mVar 2)) mNil))))) (sRet (mC (.bl false))) sNext)) (sRet (mC (.bl true)))) [some X, some Y, none] h = .ok (.rt (.bl true)) h) :
    mFun 3 2 (b__law_same f) [X, Y] h = .ok (.bl true) h := by
  unfold b__law_same
  generalize sSeq (sFor _ _ _) (sRet (mC (.bl true))) = rest at lp ⊢
  rcases ht with ⟨t1, t2⟩ | ⟨t1, t2⟩
  · walk_at "evs"
  · walk_at "evs"
theorem same_ok {h : Mh} : ∀ n x y, SameD h n x y → f__law_same (n + 1) [x, y] h = .ok (.bl true) h := by
  intro n
  induction n with
  | zero =>
    intro x y hs
    cases x with
    | non =>
      rw [SameD] at hs
      subst hs
      unfold f__law_same b__law_same
      walk_at "e"
    | bl b =>
      rw [SameD] at hs
      subst hs
      unfold f__law_same b__law_same
      walk_at "e"
    | int b =>
      rw [SameD] at hs
      subst hs
      unfold f__law_same b__law_same
      walk_at "e"
    | str b =>
      rw [SameD] at hs
      subst hs
      unfold f__law_same b__law_same
      walk_at "e"
    | _ => simp only [SameD] at hs
  | succ n ih =>
    intro x y hs
    cases x with
    | non =>
      rw [SameD] at hs
      subst hs
      unfold f__law_same b__law_same
      walk_at "e"
    | bl b =>
      rw [SameD] at hs
      subst hs
      unfold f__law_same b__law_same
      walk_at "e"
    | int b =>
      rw [SameD] at hs
      subst hs
      unfold f__law_same b__law_same
      walk_at "e"
    | str b =>
      rw [SameD] at hs
      subst hs
      unfold f__law_same b__law_same
      walk_at "e"
    | tup xs =>
      cases y with
      | tup ys =>
        rw [SameD] at hs
        obtain ⟨hl, hb, hs⟩ := hs
        have lp := same_sq (x := .tup xs) (y := .tup ys) rfl rfl hl hb ih hs
        unfold f__law_same
        exact same_top (n := ys.length) (.inl ⟨rfl, rfl⟩) rfl (by rw [e_len_t, hl]) e_len_t lp
      | _ => simp only [SameD] at hs
    | ref a =>
      cases y with
      | ref b =>
        rw [SameD] at hs
        obtain ⟨xs, ys, ha, hb, hl, hbd, hs⟩ := hs
        have lp := same_sq (x := .ref a) (y := .ref b) ha hb hl hbd ih hs
        unfold f__law_same
        exact same_top (n := ys.length) (.inr ⟨tag_r ha, tag_r hb⟩) rfl (by rw [e_len_l, ha, ← hl]; rfl) (by rw [e_len_l, hb]; rfl) lp
      | _ => simp only [SameD] at hs
    | _ => simp only [SameD] at hs
def scB : D → Bool
  | .non => true
  | .bl _ => true
  | .int _ => true
  | .str _ => true
  | _ => false
theorem same_sc {h : Mh} {n : Nat} {x : D} (e : scB x = true) : SameD h n x x := by
  cases x with
  | non => rw [SameD]
  | bl b => rw [SameD]
  | int b => rw [SameD]
  | str b => rw [SameD]
  | _ => cases e
theorem same_lst {h : Mh} {a b n : Nat} {xs : List D} (ha : lstAt h a = some xs) (hb : lstAt h b = some xs) (hs : xs.all scB = true) (hl : xs.length ≤ 10000) : f__law_same (n + 2) [.ref a, .ref b] h = .ok (.bl true) h := by
  refine same_ok (n + 1) _ _ ?_
  rw [SameD]
  refine ⟨xs, xs, ha, hb, rfl, hl, fun i x y h1 h2 => ?_⟩
  rw [h1] at h2
  cases h2
  exact same_sc (List.all_eq_true.mp hs x (List.mem_of_getElem? h1))
/-- two new lists of the same scalars -/
theorem same_two {h : Mh} {xs : List D} (hs : xs.all scB = true) (hl : decide (xs.length ≤ 10000) = true) : f__law_same 6 [.ref h.length, .ref (h.length + 1)] (h ++ [.lst xs] ++ [.lst xs]) = .ok (.bl true) (h ++ [.lst xs] ++ [.lst xs]) := by
  refine same_lst (n := 4) (xs := xs) ?_ ?_ hs (of_decide_eq_true hl)
  · rw [lst_app (by simp)]
    exact lst_new
  · exact at_lst (by simp)

theorem is_kin_eq {u d : Int} {s : Str} {h : Mh} : f__law_is_kin [.kin u d s, .tup [.int u, .int d, .str s]] h = .ok (.bl true) (h ++ [.lst [.int u, .int d, .str s]] ++ [.lst [.int u, .int d, .str s]]) := by
  unfold f__law_is_kin b__law_is_kin tab_is_Kin
  have q := same_two (h := h) (xs := [.int u, .int d, .str s]) rfl rfl
  generalize f__law_same 6 = fs at q ⊢
  walk_at "e"
local macro_rules | `(tactic| walk_at "ex") => `(tactic| simp -implicitDefEqProofs only [is_kin_eq])

theorem law_kin_eq {u d : Int} {s : Str} {h : Mh} (ok : okKinD u d s) : f__law_kin [.tup [.int u, .int d, .str s]] h = .ok (.kin u d s) h := by
  unfold f__law_kin b__law_kin
  walk_at "e"
local macro_rules | `(tactic| walk_at "ex") => `(tactic| simp -implicitDefEqProofs only [law_kin_eq, *])
theorem law_kin_bad {u d : Int} {s : Str} {h : Mh} (nok : ¬ okKinD u d s) : f__law_kin [.tup [.int u, .int d, .str s]] h = .er (badKinD u d s) [] h := by
  unfold f__law_kin b__law_kin
  walk_at "e"

def sidesD (u d : Int) : List D := if u = 0 ∨ d = 0 then [.str "line"] else [.str "elder", .str "younger"]
theorem sides_eq {u d : Int} {h : Mh} : f__law_sides [.int u, .int d] h = .ok (.ref h.length) (h ++ [.lst (sidesD u d)]) := by
  unfold f__law_sides b__law_sides sidesD
  by_cases h1 : u = 0
  · walk_at "e"
    simp
  by_cases h2 : d = 0
  · walk_at "e"
    simp
  · walk_at "e"
    simp [h1, h2]
local macro_rules | `(tactic| walk_at "ex") => `(tactic| simp -implicitDefEqProofs only [sides_eq])

theorem lst_apps {h g : Mh} {q : Nat} {ds : List D} (e : lstAt h q = some ds) : lstAt (h ++ g) q = some ds := by rw [lst_app (lst_lt e)]; exact e
/-- the cells of a reach -/
def kinT (c : Int × Int × Str) : D := .kin c.1 c.2.1 c.2.2
def tupT (c : Int × Int × Str) : D := .tup [.int c.1, .int c.2.1, .str c.2.2]
def sidesT (u d : Int) : List Str := if u = 0 ∨ d = 0 then ["line"] else ["elder", "younger"]
def rowT (r f : Int) (u : Nat) : List (Int × Int × Str) := if 0 ≤ f - (u : Int) ∧ f - (u : Int) ≤ r then (sidesT (u : Int) (f - (u : Int))).map fun s => ((u : Int), f - (u : Int), s) else []
def lineT (r : Int) (k : Nat) : List (Int × Int × Str) := (List.range (r + 1).toNat).flatMap (rowT r (1 + (k : Int)))
def cellsT (r : Int) : List (Int × Int × Str) := (List.range (2 * r).toNat).flatMap (lineT r)
theorem sidesT_len {u d : Int} : (sidesT u d).length ≤ 2 := by
  unfold sidesT
  split <;> decide
theorem rowT_len {r f : Int} {u : Nat} : (rowT r f u).length ≤ 2 := by
  unfold rowT
  split
  · rw [List.length_map]
    exact sidesT_len
  · decide
theorem flat_len {α : Type} {f : Nat → List α} {c : Nat} (h : ∀ i, (f i).length ≤ c) : ∀ n, ((List.range n).flatMap f).length ≤ c * n
  | 0 => by simp
  | n + 1 => by
    rw [List.range_succ, List.flatMap_append, List.length_append]
    have := flat_len h n
    have h2 := h n
    simp only [List.flatMap_cons, List.flatMap_nil, List.append_nil]
    rw [Nat.mul_succ]
    omega
theorem flat_succ {α : Type} {f : Nat → List α} {n : Nat} : (List.range (n + 1)).flatMap f = (List.range n).flatMap f ++ f n := by
  rw [List.range_succ, List.flatMap_append]
  simp
theorem lineT_len {r : Int} {k : Nat} : (lineT r k).length ≤ 2 * (r + 1).toNat := flat_len (fun _ => rowT_len) _
theorem sidesT_D {u d : Int} : sidesD u d = (sidesT u d).map D.str := by
  unfold sidesD sidesT
  split <;> rfl
theorem kinT_ok {r : Int} (h0 : 1 ≤ r) (h1 : r ≤ 4) {c : Int × Int × Str} (hc : c ∈ cellsT r) : okKinD c.1 c.2.1 c.2.2 ∧ c.1 ≤ r ∧ c.2.1 ≤ r := by
  unfold cellsT lineT rowT sidesT at hc
  simp only [List.mem_flatMap, List.mem_range] at hc
  obtain ⟨k, hk, u, hu, hc⟩ := hc
  split at hc
  · obtain ⟨s, hs, rfl⟩ := List.mem_map.mp hc
    unfold okKinD
    dsimp only
    split at hs
    · rename_i z
      simp only [List.mem_cons, List.not_mem_nil, or_false] at hs
      subst hs
      exact ⟨⟨by omega, by omega, .inl ⟨z, rfl⟩⟩, by omega, by omega⟩
    · rename_i z
      simp only [List.mem_cons, List.not_mem_nil, or_false] at hs
      exact ⟨⟨by omega, by omega, .inr ⟨by omega, hs⟩⟩, by omega, by omega⟩
  · cases hc
/-- the list at a grows; all that stood in h stands -/
structure Gr (h : Mh) (a : Nat) (L : List D) (h' : Mh) : Prop where
  at_ : lstAt h' a = some L
  fr : M.Fr M.noS h h'
  le : h.length ≤ a
theorem Gr.app {h h' g : Mh} {a : Nat} {L : List D} (x : Gr h a L h') : Gr h a L (h' ++ g) := ⟨by rw [lst_app (lst_lt x.at_)]; exact x.at_, x.fr.trans .app, x.le⟩
theorem Gr.push {h h' : Mh} {a : Nat} {L L' : List D} (x : Gr h a L h') : Gr h a L' (h'.set a (.lst L')) := ⟨lst_set (lst_lt x.at_), ⟨by rw [List.length_set]; exact x.fr.le, fun b hb n => by
  rw [List.getElem?_set_ne (by have := x.le; omega)]
  exact x.fr.kp b hb n⟩, x.le⟩
theorem Gr.new {h : Mh} {L : List D} : Gr h h.length L (h ++ [.lst L]) := ⟨lst_new, .app, Nat.le_refl _⟩
theorem take_at {α : Type} {l : List α} {j : Nat} {x : α} (h : l[j]? = some x) : l.take (j + 1) = l.take j ++ [x] := by
  rw [List.take_succ, h]
  rfl
theorem law_cells_ok {r : Int} {h : Mh} (h0 : 1 ≤ r) (h1 : r ≤ 4) {P : D → Mh → Prop} {E : Er → Mv → Mh → Prop}
    (k : ∀ h', Gr h h.length ((cellsT r).map tupT) h' → P (.ref h.length) h') : (f__law_cells [.int r] h).sat P E := by
  unfold f__law_cells b__law_cells
  have hm : CMul 2 r := zcmul_l (by decide)
  have hb : (-4611686018427387904 ≤ 2 * r + 1 ∧ 2 * r + 1 < 4611686018427387904) := by omega
  have hb2 : (-4611686018427387904 ≤ r + 1 ∧ r + 1 < 4611686018427387904) := by omega
  have e2 : (2 * r + 1 - 1) = 2 * r := by omega
  have gr := Gr.new (h := h) (L := [])
  generalize ha : h.length = a at *
  walk_at "evs"
  walk_at "fo"
  generalize h ++ [MO.lst []] = hx at gr
  refine Rs.sat.mono (P := Mnx fun e h' => (∃ o1 o2 o3, e = [some (.int r), some (.ref a), o1, o2, o3]) ∧ Gr h a ((cellsT r).map tupT) h') ?_ ?_ (fun _ _ _ z => z)
  · refine loop_map (n := (2 * r).toNat) (f := fun k => D.int (1 + (k : Int))) (fun i e h' => (∃ o1 o2 o3, e = [some (.int r), some (.ref a), o1, o2, o3]) ∧ Gr h a (((List.range i).flatMap (lineT r)).map tupT) h') ⟨⟨_, _, _, rfl⟩, gr⟩ (fun i e h' hi hh => ?_) fun e h' hh => hh
    clear gr
    obtain ⟨⟨o1, o2, o3, rfl⟩, gr⟩ := hh
    clear hm hb e2
    walk_at "evs"
    have l1 := flat_len (c := 2 * (r + 1).toNat) (fun k => lineT_len (r := r) (k := k)) i
    refine loop_map (n := (r + 1).toNat) (f := fun k => D.int (k : Nat)) (fun j e h' => (∃ o2 o3, e = [some (.int r), some (.ref a), some (.int (1 + (i : Int))), o2, o3]) ∧ Gr h a (((List.range i).flatMap (lineT r) ++ (List.range j).flatMap (rowT r (1 + (i : Int)))).map tupT) h') ⟨⟨_, _, rfl⟩, by simpa using gr⟩ (fun j e h' hj hh => ?_) fun e h' hh => ?_
    · clear gr
      obtain ⟨⟨o2, o3, rfl⟩, gr⟩ := hh
      clear hb2
      have l2 := flat_len (f := rowT r (1 + (i : Int))) (c := 2) (fun u => rowT_len) j
      have e3 : (List.range i).flatMap (lineT r) ++ (List.range (j + 1)).flatMap (rowT r (1 + (i : Int))) = (List.range i).flatMap (lineT r) ++ (List.range j).flatMap (rowT r (1 + (i : Int))) ++ rowT r (1 + (i : Int)) j := by rw [flat_succ (n := j), List.append_assoc]
      have l3 : ((List.range i).flatMap (lineT r) ++ (List.range j).flatMap (rowT r (1 + (i : Int)))).length ≤ 200 := by
        have z1 : 2 * (r + 1).toNat * i ≤ 10 * i := Nat.mul_le_mul_right _ (by omega)
        rw [List.length_append]
        omega
      unfold LoopP
      simp only [e3]
      clear e3 l1 l2
      generalize (List.range i).flatMap (lineT r) ++ (List.range j).flatMap (rowT r (1 + (i : Int))) = L at *
      have hF0 : 1 ≤ 1 + (i : Int) := by omega
      generalize 1 + (i : Int) = F at *
      clear hi
      by_cases c1 : 0 ≤ F - (j : Int)
      · by_cases c2 : F - (j : Int) ≤ r
        · have er : rowT r F j = (sidesT (j : Int) (F - (j : Int))).map fun s => ((j : Int), F - (j : Int), s) := if_pos ⟨c1, c2⟩
          rw [er]
          walk_at "e"
          have sl := sidesT_len (u := (j : Int)) (d := F - (j : Int))
          rw [sidesT_D]
          generalize sidesT (j : Int) (F - (j : Int)) = sd at *
          have hb : lstAt (h' ++ [.lst (sd.map D.str)]) h'.length = some (sd.map D.str) := lst_new
          have hab : a ≠ h'.length := Nat.ne_of_lt (lst_lt gr.at_)
          have gr2 := gr.app (g := [.lst (sd.map D.str)])
          clear gr er c1 c2
          generalize h'.length = b at *
          generalize h' ++ [MO.lst (sd.map D.str)] = h2 at *
          refine loop_inv (fun n e h3 => (∃ o3, e = [some (.int r), some (.ref a), some (.int F), some (.int (j : Int)), o3]) ∧ lstAt h3 b = some (sd.map D.str) ∧ Gr h a ((L ++ (sd.take n).map fun s => ((j : Int), F - (j : Int), s)).map tupT) h3)
            (fun n e h3 hh c hc => by cases hc; exact hh.2.1) ⟨⟨_, rfl⟩, hb, by simpa using gr2⟩ (fun n x e h3 hx hh => ?_) fun e h3 hh => ?_
          · clear hb gr2
            obtain ⟨⟨o3, rfl⟩, hb, gr⟩ := hh
            rw [List.getElem?_map] at hx
            obtain ⟨s, es, rfl⟩ := Option.map_eq_some_iff.mp hx
            have et : ∀ f : Str → Int × Int × Str, (L ++ (sd.take (n + 1)).map f).map tupT = (L ++ (sd.take n).map f).map tupT ++ [tupT (f s)] := fun f => by rw [take_at es]; simp
            unfold LoopP
            simp only [et]
            have hl := gr.at_
            have ln : ((L ++ (sd.take n).map fun s => ((j : Int), F - (j : Int), s)).map tupT).length < 16777216 := by
              rw [List.length_map, List.length_append, List.length_map, List.length_take]
              omega
            clear et es
            generalize ((L ++ (sd.take n).map fun s => ((j : Int), F - (j : Int), s)).map tupT) = L2 at *
            have p := gr.push (L' := L2 ++ [tupT ((j : Int), F - (j : Int), s)])
            have hb2 : lstAt (h3.set a (.lst (L2 ++ [tupT ((j : Int), F - (j : Int), s)]))) b = some (sd.map D.str) := by rw [lst_set_ne hab]; exact hb
            unfold tupT at p hb2 ⊢
            walk_at "evs"
            exact ⟨_, rfl⟩
          · obtain ⟨⟨o3, rfl⟩, _, gr⟩ := hh
            rw [List.length_map, List.take_length] at gr
            exact ⟨⟨_, _, rfl⟩, gr⟩
        · have er : rowT r F j = [] := if_neg fun z => c2 z.2
          simp only [er, List.append_nil]
          walk_at "evs"
          exact ⟨_, _, rfl⟩
      · have er : rowT r F j = [] := if_neg fun z => c1 z.1
        simp only [er, List.append_nil]
        walk_at "evs"
        exact ⟨_, _, rfl⟩
    · obtain ⟨⟨o2, o3, rfl⟩, gr⟩ := hh
      refine ⟨⟨_, _, _, rfl⟩, ?_⟩
      rw [flat_succ]
      exact gr
  · intro o h' ho
    cases o with
    | nx e =>
      obtain ⟨⟨o1, o2, o3, rfl⟩, gr2⟩ := ho
      clear gr
      walk_at "evs" <;> exact k _ gr2
    | _ => exact ho.elim

/-- the draws' state at q -/
structure Dr (q : Nat) (h : Mh) : Prop where
  ex : ∃ (p : Nat) (ns : List Int) (i v c m : Int), lstAt h q = some [.ref p, .int i, .int v, .int c, .int m] ∧ lstAt h p = some (ns.map D.int) ∧ p ≠ q ∧ 0 ≤ i ∧ ns.length ≤ 63
theorem Dr.fr {q : Nat} {h h' : Mh} {S : Nat → Prop} (d : Dr q h) (f : M.Fr S h h') (n : ∀ a, S a → h.length ≤ a) : Dr q h' := by
  obtain ⟨p, ns, i, v, c, m, e1, e2, r⟩ := d.ex
  exact ⟨p, ns, i, v, c, m, f.lst e1 (fun z => absurd (n _ z) (Nat.not_le.mpr (lst_lt e1))), f.lst e2 (fun z => absurd (n _ z) (Nat.not_le.mpr (lst_lt e2))), r⟩
theorem Dr.lt {q : Nat} {h : Mh} (d : Dr q h) : q < h.length := by
  obtain ⟨p, ns, i, v, c, m, e1, _⟩ := d.ex
  exact lst_lt e1
theorem not_at {q n a : Nat} (hq : q < n) (ha : n ≤ a) : ¬ M.atS q a := fun z => by
  have z' : a = q := z
  omega
theorem Dr.app {q : Nat} {h g : Mh} (d : Dr q h) : Dr q (h ++ g) := d.fr (S := M.noS) .app fun _ z => z.elim
structure DrS (q p : Nat) (ns : List Int) (h h1 : Mh) : Prop where
  ex : ∃ (i v c m : Int), lstAt h1 q = some [.ref p, .int i, .int v, .int c, .int m] ∧ 0 ≤ i
  p : lstAt h1 p = some (ns.map D.int)
  fr : M.Fr (M.atS q) h h1
def DrM (q p : Nat) (ns : List Int) (many : Int) (h : Mh) : So → Mh → Prop
  | .nx e, h1 => e = [some (.ref q), some (.int many), none, none] ∧ DrS q p ns h h1
  | .rt d, h1 => d = .int 0 ∧ h1 = h
  | _, _ => False
theorem DrS.set {q p : Nat} {ns : List Int} {h h1 : Mh} (d : DrS q p ns h h1) (hpq : p ≠ q) {i v c m : Int} (hi : 0 ≤ i) : DrS q p ns h (h1.set q (.lst [.ref p, .int i, .int v, .int c, .int m])) := by
  obtain ⟨⟨_, _, _, _, e, _⟩, e2, f⟩ := d
  exact ⟨⟨i, v, c, m, lst_set (lst_lt e), hi⟩, by rw [lst_set_ne hpq.symm]; exact e2, f.trans (.set rfl)⟩
theorem DrS.dr {q p : Nat} {ns : List Int} {h h1 : Mh} (d : DrS q p ns h h1) (hpq : p ≠ q) (hn : ns.length ≤ 63) : Dr q h1 := by
  obtain ⟨⟨i, v, c, m, e, hi⟩, e2, f⟩ := d
  exact ⟨p, ns, i, v, c, m, e, e2, hpq, hi, hn⟩
theorem at_ints {ns : List Int} {i : Int} (h0 : 0 ≤ i) (h1 : i < ns.length) : ∃ v, atI (ns.map D.int) i = some (.int v) := by
  have h2 : i.toNat < ns.length := by omega
  refine ⟨ns[i.toNat], ?_⟩
  unfold atI ixN
  rw [List.length_map, if_pos h0, if_pos h1, Option.bind_some, List.getElem?_map, List.getElem?_eq_getElem h2]
  rfl
theorem draw_ok {q : Nat} {h : Mh} {many : Int} {P : D → Mh → Prop} {E : Er → Mv → Mh → Prop} (dr : Dr q h) (h0 : 0 < many) (h1 : many < 2 ^ 64)
    (k : ∀ r h', 0 ≤ r → r < many → Dr q h' → M.Fr (M.atS q) h h' → P (.int r) h') : (f__law_draw [.ref q, .int many] h).sat P E := by
  obtain ⟨p, ns, i, v, c, m, e1, e2, hpq, hi, hn⟩ := dr.ex
  have hq := lst_lt e1
  unfold f__law_draw b__law_draw
  walk_at "evs"
  walk_at "fo"
  have d0 : DrS q p ns h h := ⟨⟨i, v, c, m, e1, hi⟩, e2, .refl⟩
  refine Rs.sat.mono (P := DrM q p ns many h) ?_ ?_ (fun _ _ _ z => z)
  · refine sat_ite (fun hc => ?_) fun hc => ?_
    · walk_at "evs"
      walk_at "fo"
      refine sat_ite (fun hc => ?_) fun hc => ?_
      · exact ⟨rfl, rfl⟩
      · obtain ⟨v', hv⟩ := at_ints hi (show i < ns.length by omega)
        walk_at "evs"
        walk_at "fo"
        refine sat_ite (fun hc => ?_) fun hc => ?_
        · walk_at "evs"
          exact ⟨rfl, d0.set hpq (by omega)⟩
        · exact ⟨rfl, d0.set hpq (by omega)⟩
    · exact ⟨rfl, d0⟩
  · rintro o h1 hh
    cases o with
    | rt d =>
      obtain ⟨rfl, rfl⟩ := hh
      exact k 0 _ (Int.le_refl _) h0 dr .refl
    | nx e =>
      obtain ⟨rfl, d1⟩ := hh
      clear e1 hq hi d0
      obtain ⟨⟨i, v, c, m, e1, hi⟩, e2, f1⟩ := id d1
      have hq := lst_lt e1
      have hdv : CDivW v many := ⟨h0, by
        have : many.natAbs < 2 ^ 64 := by omega
        exact Nat.lt_of_lt_of_le (PySem.Flt.log2_lt_of (by decide) this) (by decide)⟩
      have fin : ∀ (r : Int) (i v c m : Int), 0 ≤ r → r < many → 0 ≤ i → P (.int r) (h1.set q (.lst [.ref p, .int i, .int v, .int c, .int m])) := fun r i v c m r0 r1 i0 => k r _ r0 r1 ((d1.set hpq i0).dr hpq hn) (d1.set hpq i0).fr
      have r0 := Int.emod_nonneg v (show many ≠ 0 by omega)
      have r1 := Int.emod_lt_of_pos v h0
      walk_at "evs"
      walk_at "fo"
      refine sat_ite (fun hc => ?_) fun hc => ?_
      · walk_at "evs"
        walk_at "fo"
        refine sat_ite (fun hc => ?_) fun hc => ?_
        · walk_at "evs" <;> exact fin _ _ _ _ _ r0 r1 hi
        · walk_at "evs" <;> exact fin _ _ _ _ _ r0 r1 hi
      · have m1 : CMul v 48271 := zcmul_r (by decide)
        have m2 : CMul (c - 1) 69621 := zcmul_r (by decide)
        have p1 : (0 : Int) < 2147483647 := by decide
        have p2 : (0 : Int) < 1000003 := by decide
        walk_at "evs"
        generalize (v * 48271 + (c - 1) * 69621 + 12345) % 2147483647 = x1
        have m3 : CMul x1 16807 := zcmul_r (by decide)
        have m4 : CDivW x1 127773 := ⟨by decide, by decide +kernel⟩
        walk_at "evs"
        generalize (x1 * 16807 + x1 / 127773 + 3) % 1000003 = x2
        exact fin _ _ _ _ _ (Int.emod_nonneg x2 (by omega)) (Int.emod_lt_of_pos x2 h0) hi
    | _ => exact hh.elim

theorem start_eq {ns : List Int} {h : Mh} : f__law_start [.scr (ns.map D.int)] h = .ok (.ref (h.length + 1)) (h ++ [.lst (ns.map D.int)] ++ [.lst [.ref h.length, .int 0, .int 0, .int 0, .int 0]]) := by
  unfold f__law_start b__law_start
  walk_at "e"
theorem start_dr {ns : List Int} (hn : ns.length ≤ 63) : Dr 1 ([.lst (ns.map D.int)] ++ [.lst [.ref 0, .int 0, .int 0, .int 0, .int 0]]) :=
  ⟨⟨0, ns, 0, 0, 0, 0, rfl, rfl, by decide, by decide, hn⟩⟩

theorem all_cells_ok {r : Int} {h : Mh} (h0 : 1 ≤ r) (h1 : r ≤ 4) {P : D → Mh → Prop} {E : Er → Mv → Mh → Prop}
    (k : ∀ h', Gr h h.length ((cellsT r).map kinT) h' → P (.ref h.length) h') : (f_all_cells [.int r] h).sat P E := by
  unfold f_all_cells b_all_cells
  have q0 := demand_eq (h := h) h0 h1
  have hm : CMul 2 r := zcmul_l (by decide)
  have hb : (-4611686018427387904 ≤ 2 * r + 1 ∧ 2 * r + 1 < 4611686018427387904) := by omega
  have hb2 : (-4611686018427387904 ≤ r + 1 ∧ r + 1 < 4611686018427387904) := by omega
  have e2 : (2 * r + 1 - 1) = 2 * r := by omega
  have gr := Gr.new (h := h) (L := [])
  walk_at "evs"
  walk_at "fo"
  generalize ha : h.length = a at *
  generalize h ++ [MO.lst []] = hx at gr
  refine Rs.sat.mono (P := Mnx fun e h' => (∃ o1 o2 o3, e = [some (.int r), some (.ref a), o1, o2, o3]) ∧ Gr h a ((cellsT r).map kinT) h') ?_ ?_ (fun _ _ _ z => z)
  · refine loop_map (n := (2 * r).toNat) (f := fun k => D.int (1 + (k : Int))) (fun i e h' => (∃ o1 o2 o3, e = [some (.int r), some (.ref a), o1, o2, o3]) ∧ Gr h a (((List.range i).flatMap (lineT r)).map kinT) h') ⟨⟨_, _, _, rfl⟩, gr⟩ (fun i e h' hi hh => ?_) fun e h' hh => hh
    clear gr
    obtain ⟨⟨o1, o2, o3, rfl⟩, gr⟩ := hh
    clear hm hb e2 q0
    walk_at "evs"
    have l1 := flat_len (c := 2 * (r + 1).toNat) (fun k => lineT_len (r := r) (k := k)) i
    refine loop_map (n := (r + 1).toNat) (f := fun k => D.int (k : Nat)) (fun j e h' => (∃ o2 o3, e = [some (.int r), some (.ref a), some (.int (1 + (i : Int))), o2, o3]) ∧ Gr h a (((List.range i).flatMap (lineT r) ++ (List.range j).flatMap (rowT r (1 + (i : Int)))).map kinT) h') ⟨⟨_, _, rfl⟩, by simpa using gr⟩ (fun j e h' hj hh => ?_) fun e h' hh => ?_
    · clear gr
      obtain ⟨⟨o2, o3, rfl⟩, gr⟩ := hh
      clear hb2
      have l2 := flat_len (f := rowT r (1 + (i : Int))) (c := 2) (fun u => rowT_len) j
      have e3 : (List.range i).flatMap (lineT r) ++ (List.range (j + 1)).flatMap (rowT r (1 + (i : Int))) = (List.range i).flatMap (lineT r) ++ (List.range j).flatMap (rowT r (1 + (i : Int))) ++ rowT r (1 + (i : Int)) j := by rw [flat_succ (n := j), List.append_assoc]
      have l3 : ((List.range i).flatMap (lineT r) ++ (List.range j).flatMap (rowT r (1 + (i : Int)))).length ≤ 200 := by
        have z1 : 2 * (r + 1).toNat * i ≤ 10 * i := Nat.mul_le_mul_right _ (by omega)
        rw [List.length_append]
        omega
      unfold LoopP
      simp only [e3]
      clear e3 l1 l2
      generalize (List.range i).flatMap (lineT r) ++ (List.range j).flatMap (rowT r (1 + (i : Int))) = L at *
      have hF0 : 1 ≤ 1 + (i : Int) := by omega
      generalize 1 + (i : Int) = F at *
      clear hi
      have hl := gr.at_
      by_cases c1 : 0 ≤ F - (j : Int)
      · by_cases c2 : F - (j : Int) ≤ r
        · have c1' : ¬ F - (j : Int) < 0 := by omega
          have c2' : ¬ r < F - (j : Int) := by omega
          have ln : (L.map kinT).length < 16777216 := by rw [List.length_map]; omega
          by_cases z : (j : Int) = 0 ∨ F - (j : Int) = 0
          · have er : rowT r F j = [((j : Int), F - (j : Int), ("line" : Str))] := by
              unfold rowT sidesT
              rw [if_pos ⟨c1, c2⟩, if_pos z]
              rfl
            have ok : okKinD (j : Int) (F - (j : Int)) "line" := ⟨by omega, by omega, .inl ⟨z, rfl⟩⟩
            simp only [er, List.map_append, List.map_cons, List.map_nil, kinT]
            have p := gr.push (L' := L.map kinT ++ [D.kin (j : Int) (F - (j : Int)) "line"])
            clear er gr c1 c2
            generalize L.map kinT = L2 at *
            by_cases z1 : (j : Int) = 0
            · have zd := decide_eq_true z1
              clear z1 z
              walk_at "evs"
              exact ⟨_, _, rfl⟩
            · have z2 : F - (j : Int) = 0 := by omega
              have zd := decide_eq_true z2
              clear z2 z
              walk_at "evs"
              exact ⟨_, _, rfl⟩
          · have er : rowT r F j = [((j : Int), F - (j : Int), ("elder" : Str)), ((j : Int), F - (j : Int), ("younger" : Str))] := by
              unfold rowT sidesT
              rw [if_pos ⟨c1, c2⟩, if_neg z]
              rfl
            have z1 : ¬ (j : Int) = 0 := fun q => z (.inl q)
            have z2 : ¬ F - (j : Int) = 0 := fun q => z (.inr q)
            have ok : okKinD (j : Int) (F - (j : Int)) "elder" := ⟨by omega, by omega, .inr ⟨⟨z1, z2⟩, .inl rfl⟩⟩
            have ok2 : okKinD (j : Int) (F - (j : Int)) "younger" := ⟨by omega, by omega, .inr ⟨⟨z1, z2⟩, .inr rfl⟩⟩
            simp only [er, List.map_append, List.map_cons, List.map_nil, kinT]
            have p1 := gr.push (L' := L.map kinT ++ [D.kin (j : Int) (F - (j : Int)) "elder"])
            have p := p1.push (L' := L.map kinT ++ [D.kin (j : Int) (F - (j : Int)) "elder", D.kin (j : Int) (F - (j : Int)) "younger"])
            have hl1 := p1.at_
            have ln1 : (L.map kinT).length + 1 < 16777216 := by rw [List.length_map]; omega
            have as : ∀ (A : List D) (x y : D), A ++ [x] ++ [y] = A ++ [x, y] := fun A x y => by simp
            clear er gr c1 c2 z p1
            rw [List.set_set] at p
            generalize L.map kinT = L2 at *
            walk_at "evs" <;> first | exact p | exact ⟨_, _, rfl⟩ | exact ⟨⟨_, _, rfl⟩, p⟩
        · have er : rowT r F j = [] := if_neg fun z => c2 z.2
          have c1' : ¬ F - (j : Int) < 0 := by omega
          have c2' : r < F - (j : Int) := by omega
          simp only [er, List.append_nil]
          walk_at "evs"
          exact ⟨_, _, rfl⟩
      · have er : rowT r F j = [] := if_neg fun z => c1 z.1
        have c1' : F - (j : Int) < 0 := by omega
        simp only [er, List.append_nil]
        walk_at "evs"
        exact ⟨_, _, rfl⟩
    · obtain ⟨⟨o2, o3, rfl⟩, gr⟩ := hh
      refine ⟨⟨_, _, _, rfl⟩, ?_⟩
      rw [flat_succ]
      exact gr
  · intro o h' ho
    cases o with
    | nx e =>
      obtain ⟨⟨o1, o2, o3, rfl⟩, gr2⟩ := ho
      clear gr
      walk_at "evs" <;> exact k _ gr2
    | _ => exact ho.elim
theorem are_kins_ok {L : List (Int × Int × Str)} {a b : Nat} {h : Mh} (ha : lstAt h a = some (L.map kinT)) (hb : lstAt h b = some (L.map tupT)) (hl : L.length ≤ 200) {P : D → Mh → Prop} {E : Er → Mv → Mh → Prop}
    (k : ∀ g, P (.bl true) (h ++ g)) : (f__law_are_kins [.ref a, .ref b] h).sat P E := by
  unfold f__law_are_kins b__law_are_kins
  have t1 := tag_r ha
  have l1 : (L.map kinT).length = L.length := List.length_map _
  have l2 : (L.map tupT).length = L.length := List.length_map _
  have hb2 : (-4611686018427387904 ≤ (L.length : Int) ∧ (L.length : Int) < 4611686018427387904) := by omega
  walk_at "evs"
  walk_at "fo"
  refine Rs.sat.mono (P := Mnx fun e h' => (∃ o, e = [some (.ref a), some (.ref b), o]) ∧ ∃ g, h' = h ++ g) ?_ ?_ (fun _ _ _ z => z)
  · rw [Int.toNat_natCast]
    refine loop_map (n := L.length) (f := fun k => D.int (k : Nat)) (fun i e h' => (∃ o, e = [some (.ref a), some (.ref b), o]) ∧ ∃ g, h' = h ++ g) ⟨⟨_, rfl⟩, [], by simp⟩ (fun i e h' hi hh => ?_) fun e h' hh => hh
    obtain ⟨⟨o, rfl⟩, g, rfl⟩ := hh
    obtain ⟨⟨u, d, s⟩, hc⟩ : ∃ c, L[i]? = some c := ⟨_, List.getElem?_eq_getElem hi⟩
    have x1 : atI (L.map kinT) (i : Int) = some (.kin u d s) := by rw [atI_nt, List.getElem?_map, hc]; rfl
    have x2 : atI (L.map tupT) (i : Int) = some (.tup [.int u, .int d, .str s]) := by rw [atI_nt, List.getElem?_map, hc]; rfl
    have ha2 : lstAt (h ++ g) a = some (L.map kinT) := by rw [lst_app (lst_lt ha)]; exact ha
    have hb3 : lstAt (h ++ g) b = some (L.map tupT) := by rw [lst_app (lst_lt hb)]; exact hb
    have q := is_kin_eq (u := u) (d := d) (s := s) (h := h ++ g)
    have fin : ∃ g2, h ++ g ++ [MO.lst [.int u, .int d, .str s]] ++ [MO.lst [.int u, .int d, .str s]] = h ++ g2 := ⟨_, by rw [List.append_assoc, List.append_assoc]⟩
    clear t1 l1 l2 hb2 ha hb hl hi hc k
    unfold LoopP
    generalize L.map kinT = K1 at *
    generalize L.map tupT = K2 at *
    generalize h ++ g = h2 at *
    walk_at "evs"
    first | exact ⟨⟨_, rfl⟩, fin⟩ | exact ⟨_, rfl⟩
  · intro o h' ho
    cases o with
    | nx e =>
      obtain ⟨⟨o, rfl⟩, g, rfl⟩ := ho
      have k2 := k g
      clear t1 l1 l2 hb2 ha hb hl k
      generalize h ++ g = h2 at *
      walk_at "evs"
    | _ => exact ho.elim
/-- a number's text -/
def numT (n r : Int) : Str := if n = r then Str.ofString (toString n) ++ ("+" : Str) else Str.ofString (toString n)
theorem log_le {n : Int} (h0 : 0 ≤ n) (h1 : n ≤ 999) : n.natAbs.log2 < 1920 := by
  have : n.natAbs < 2 ^ 10 := by omega
  exact Nat.lt_of_lt_of_le (PySem.Flt.log2_lt_of (by decide) this) (by decide)
theorem txt_len {n : Int} (h0 : 0 ≤ n) (h1 : n ≤ 999) : (Str.ofString (toString n)).length ≤ 4 := by
  have z := PySem.int_text_length_le10 (a := n) (k := 3) (by decide) (by omega)
  have e : (Str.ofString (toString n)).length = (toString n).length := by
    rw [Str.ofString_eq_toList]
    simp [Str.length]
    exact String.length_toList
  omega
theorem num_eq {n r : Int} {h : Mh} (h0 : 0 ≤ n) (h1 : n ≤ 999) : f_number_text [.int n, .int r] h = .ok (.str (numT n r)) h := by
  unfold f_number_text b_number_text numT
  have l1 := log_le h0 h1
  have l2 := txt_len h0 h1
  have l3 : (Str.ofString (toString n) ++ ("+" : Str)).length ≤ 16777216 := by rw [str_app_len]; have : ("+" : Str).length = 1 := rfl; omega
  have l4 : (Str.ofString (toString n)).length ≤ 16777216 := by omega
  by_cases c : n = r
  · subst c
    walk_at "evs"
  · walk_at "evs"
def addT (t : Str) (n r : Int) : Str := t ++ (" " : Str) ++ numT n r
def cellS (u d : Int) (s : Str) (r : Int) : Str := addT (addT s u r) d r
theorem numT_len {n r : Int} (h0 : 0 ≤ n) (h1 : n ≤ 999) : (numT n r).length ≤ 5 := by
  unfold numT
  have := txt_len h0 h1
  split
  · rw [str_app_len]
    have : ("+" : Str).length = 1 := rfl
    omega
  · omega
theorem side_len {u d : Int} {s : Str} (ok : okKinD u d s) : s.length ≤ 7 := by
  obtain ⟨_, _, ⟨_, rfl⟩ | ⟨_, rfl | rfl⟩⟩ := ok
  · decide
  · decide
  · decide
theorem addT_len {t : Str} {n r : Int} {c : Nat} (h0 : 0 ≤ n) (h1 : n ≤ 999) (h : t.length ≤ c) : (t ++ (" " : Str)).length ≤ c + 1 ∧ (addT t n r).length ≤ c + 6 := by
  unfold addT
  have := numT_len (r := r) h0 h1
  have e1 : (t ++ (" " : Str)).length = t.length + (" " : Str).length := str_app_len
  have e2 : (t ++ (" " : Str) ++ numT n r).length = (t ++ (" " : Str)).length + (numT n r).length := str_app_len
  have : (" " : Str).length = 1 := rfl
  omega
theorem cell_text_eq {u d r : Int} {s : Str} {h : Mh} (ok : okKinD u d s) : f_cell_text [.kin u d s, .int r] h = .ok (.str (cellS u d s r)) h := by
  unfold f_cell_text b_cell_text cellS addT
  have q1 := num_eq (r := r) (h := h) ok.1.1 ok.1.2
  have q2 := num_eq (r := r) (h := h) ok.2.1.1 ok.2.1.2
  have l0 := side_len ok
  obtain ⟨l1, l2⟩ := addT_len (r := r) ok.1.1 ok.1.2 l0
  obtain ⟨l3, l4⟩ := addT_len (r := r) ok.2.1.1 ok.2.1.2 l2
  have l5 := numT_len (r := r) ok.1.1 ok.1.2
  have l6 := numT_len (r := r) ok.2.1.1 ok.2.1.2
  unfold addT at *
  have m0 : s.length ≤ 16777216 := by omega
  have m1 : (s ++ (" " : Str)).length ≤ 16777216 := by omega
  have m2 : (numT u r).length ≤ 16777216 := by omega
  have m3 : (numT d r).length ≤ 16777216 := by omega
  have m4 : (s ++ (" " : Str) ++ numT u r).length ≤ 16777216 := by omega
  have m5 : (s ++ (" " : Str) ++ numT u r ++ (" " : Str)).length ≤ 16777216 := by omega
  have m6 : (s ++ (" " : Str) ++ numT u r ++ (" " : Str) ++ numT d r).length ≤ 16777216 := by omega
  clear l0 l1 l2 l3 l4 l5 l6
  generalize numT u r = a at *
  generalize numT d r = b at *
  walk_at "evs"
theorem law_cell_text_eq {u d r : Int} {s : Str} {h : Mh} (ok : okKinD u d s) : f__law_cell_text [.tup [.int u, .int d, .str s], .int r] h = .ok (.str (cellS u d s r)) (h ++ [.lst [.int u, .int d]]) := by
  obtain ⟨tx, x0, x1, x2⟩ : ∃ tx : Nat → Str, tx 0 = s ∧ tx 1 = addT s u r ∧ tx 2 = cellS u d s r := ⟨fun i => match i with | 0 => s | 1 => addT s u r | _ => cellS u d s r, rfl, rfl, rfl⟩
  have step : ∀ (i : Nat) (x : D), [D.int u, .int d][i]? = some x → ∃ n, x = .int n ∧ (0 ≤ n ∧ n ≤ 999) ∧ (tx i).length ≤ 13 ∧ tx (i + 1) = addT (tx i) n r := by
    intro i x hx
    have l0 := side_len ok
    match i, hx with
    | 0, hx =>
      cases hx
      exact ⟨u, rfl, ok.1, by rw [x0]; omega, by rw [x0, x1]⟩
    | 1, hx =>
      cases hx
      exact ⟨d, rfl, ok.2.1, by rw [x1]; exact (addT_len ok.1.1 ok.1.2 l0).2, by rw [x1, x2]; rfl⟩
    | i + 2, hx => cases hx
  unfold f__law_cell_text b__law_cell_text
  have hl : lstAt (h ++ [.lst [.int u, .int d]]) h.length = some [.int u, .int d] := lst_new
  walk_at "evs"
  generalize h.length = a at *
  generalize h ++ [.lst [.int u, .int d]] = h2 at *
  rw [← x2]
  generalize hds : [D.int u, .int d] = ds at *
  have hd2 : ds.length = 2 := by rw [← hds]; rfl
  generalize hr : mLoop _ _ _ _ _ _ _ = res
  have lp : res.sat (fun o h' => (∃ o2, o = .nx [some (.tup [.int u, .int d, .str s]), some (.int r), some (.str (tx 2)), o2]) ∧ h' = h2) fun _ _ _ => False := by
    rw [← hr]
    refine loop_inv (fun i e h' => (∃ o2, e = [some (.tup [.int u, .int d, .str s]), some (.int r), some (.str (tx i)), o2]) ∧ h' = h2) (fun i e h' hh b hb => by cases hb; rw [hh.2]; exact hl) ⟨⟨_, by rw [x0]⟩, rfl⟩ (fun i x e h' hx hh => ?_) fun e h' hh => ?_
    · obtain ⟨⟨o2, rfl⟩, rfl⟩ := hh
      obtain ⟨n, rfl, ⟨n0, n1⟩, tl, te⟩ := step i x hx
      have ll := log_le n0 n1
      obtain ⟨l1, l2⟩ := addT_len (r := r) n0 n1 tl
      have e1 : (tx i).length + (" " : Str).length ≤ 16777216 := by have : (" " : Str).length = 1 := rfl; omega
      have e2 := txt_len n0 n1
      have e3 : (tx i ++ (" " : Str)).length + (Str.ofString (toString n)).length ≤ 16777216 := by omega
      have e4 : (tx i ++ (" " : Str) ++ Str.ofString (toString n)).length + ("+" : Str).length ≤ 16777216 := by
        rw [str_app_len]
        have : ("+" : Str).length = 1 := rfl
        omega
      unfold LoopP
      simp only [te]
      unfold addT numT
      clear step x0 x1 x2 hr hd2 hl te hx tl l1 l2 e2 n0 n1 hds
      by_cases c : n = r
      · rw [if_pos c]
        have as := str_app_assoc (s := tx i ++ (" " : Str)) (t := Str.ofString (toString n)) (u := ("+" : Str))
        have cd := decide_eq_true c
        clear c
        walk_at "evs"
        exact ⟨_, rfl⟩
      · rw [if_neg c]
        walk_at "evs"
        exact ⟨_, rfl⟩
    · rw [hd2] at hh
      obtain ⟨⟨o2, rfl⟩, rfl⟩ := hh
      exact ⟨⟨_, rfl⟩, rfl⟩
  clear hr step
  cases res with
  | ok o h' =>
    obtain ⟨⟨o2, rfl⟩, rfl⟩ := lp
    walk_at "evs"
  | er _ _ _ => exact lp.elim
  | no => exact lp.elim
theorem cells_len {r : Int} (h0 : 1 ≤ r) (h1 : r ≤ 4) : ((cellsT r).length : Int) = 2 * r + 2 * r * r ∧ (cellsT r).length ≤ 40 ∧ 1 ≤ (cellsT r).length := by
  have : r = 1 ∨ r = 2 ∨ r = 3 ∨ r = 4 := by omega
  rcases this with rfl | rfl | rfl | rfl <;> exact ⟨by decide +kernel, by decide +kernel, by decide +kernel⟩
theorem listed_ok {r : Int} {h : Mh} (h0 : 1 ≤ r) (h1 : r ≤ 4) {P : D → Mh → Prop} {E : Er → Mv → Mh → Prop} (k : ∀ h', M.Fr M.noS h h' → P (.bl true) h') : (f__law_listed [.int r] h).sat P E := by
  unfold f__law_listed b__law_listed
  walk_at "evs"
  walk_at "fo"
  refine law_cells_ok h0 h1 fun h2 g1 => ?_
  have f1 := g1.fr
  have hb := g1.at_
  generalize h.length = b at *
  clear g1
  walk_at "evs"
  walk_at "fo"
  refine all_cells_ok h0 h1 fun h3 g2 => ?_
  have f2 := g2.fr
  have ha := g2.at_
  have hab : b ≠ h2.length := Nat.ne_of_lt (lst_lt hb)
  have hb := f2.lst hb id
  have la : h.length ≤ h2.length := f1.le
  have ff := f1.trans f2
  generalize h2.length = a at *
  clear g2 f1 f2
  obtain ⟨c1, c2, c3⟩ := cells_len h0 h1
  have hc : ∀ c ∈ cellsT r, okKinD c.1 c.2.1 c.2.2 := fun c hc => (kinT_ok h0 h1 hc).1
  have m1 : CMul 2 r := zcmul_l (by decide)
  have m2 : CMul (2 * r) r := zcmul_r (by omega)
  have m3 : -4611686018427387904 ≤ 2 * r + 2 * r * r ∧ 2 * r + 2 * r * r < 4611686018427387904 := by rw [← c1]; omega
  walk_at "evs"
  walk_at "fo"
  refine are_kins_ok ha hb (by omega) fun g => ?_
  replace ha := lst_apps (g := g) ha
  replace hb := lst_apps (g := g) hb
  replace ff := ff.trans (M.Fr.app (S := M.noS) (g := g))
  generalize h3 ++ g = h4 at *
  walk_at "evs"
  walk_at "fo"
  have en : (2 * r + 2 * r * r).toNat = (cellsT r).length := by rw [← c1, Int.toNat_natCast]
  rw [en]
  clear m1 m2 m3 c1 en
  refine Rs.sat.mono (P := Mnx fun e h' => (∃ o, e = [some (.int r), some (.ref b), some (.ref a), o]) ∧ lstAt h' a = some ((cellsT r).map kinT) ∧ lstAt h' b = some ((cellsT r).map tupT) ∧ M.Fr M.noS h h') ?_ ?_ (fun _ _ _ z => z)
  · refine loop_map (n := (cellsT r).length) (f := fun k => D.int (k : Nat)) (fun i e h' => (∃ o, e = [some (.int r), some (.ref b), some (.ref a), o]) ∧ lstAt h' a = some ((cellsT r).map kinT) ∧ lstAt h' b = some ((cellsT r).map tupT) ∧ M.Fr M.noS h h') ⟨⟨_, rfl⟩, ha, hb, ff⟩ (fun i e h' hi hh => ?_) fun e h' hh => hh
    clear ha hb ff k
    obtain ⟨⟨o, rfl⟩, ha, hb, ff⟩ := hh
    obtain ⟨⟨u, d, s⟩, hx⟩ : ∃ c, (cellsT r)[i]? = some c := ⟨_, List.getElem?_eq_getElem hi⟩
    have x1 : atI ((cellsT r).map kinT) (i : Int) = some (.kin u d s) := by rw [atI_nt, List.getElem?_map, hx]; rfl
    have x2 : atI ((cellsT r).map tupT) (i : Int) = some (.tup [.int u, .int d, .str s]) := by rw [atI_nt, List.getElem?_map, hx]; rfl
    have ok := hc _ (List.mem_of_getElem? hx)
    have q1 := cell_text_eq (r := r) (h := h') ok
    have q2 := law_cell_text_eq (r := r) (h := h') ok
    have q3 := same_ok (h := h' ++ [.lst [.int u, .int d]]) 5 (.str (cellS u d s r)) (.str (cellS u d s r)) (same_sc rfl)
    have ha2 := lst_apps (g := [.lst [.int u, .int d]]) ha
    have hb2 := lst_apps (g := [.lst [.int u, .int d]]) hb
    replace ff := ff.trans (M.Fr.app (S := M.noS) (g := [.lst [.int u, .int d]]))
    clear hc hi hx ok la hab c2 c3 h0 h1
    unfold LoopP
    generalize f__law_same (5 + 1) = fs at q3 ⊢
    generalize cellS u d s r = cs at *
    generalize (cellsT r).map kinT = K1 at *
    generalize (cellsT r).map tupT = K2 at *
    walk_at "evs"
    first | exact ⟨⟨_, rfl⟩, ha2, hb2, ff⟩ | exact ⟨_, rfl⟩ | exact ⟨⟨_, rfl⟩, ff⟩
  · intro o h5 ho
    cases o with
    | nx e =>
      clear ha hb ff
      obtain ⟨⟨o, rfl⟩, ha, hb, ff⟩ := ho
      have hk : ∃ x L2, (cellsT r).map kinT = x :: L2 ∧ L2.length ≤ 40 := by
        cases hcl : cellsT r with
        | nil => rw [hcl] at c3; exact absurd c3 (by decide)
        | cons x L2 => exact ⟨_, _, rfl, by rw [hcl] at c2; rw [List.length_map]; simp only [List.length_cons] at c2; omega⟩
      obtain ⟨x, L2, hk, hl2⟩ := hk
      rw [hk] at ha
      have hl3 : L2.length < 16777216 := by omega
      have ha2 : lstAt (h5.set a (.lst L2)) a = some L2 := lst_set (lst_lt ha)
      have hb2 : lstAt (h5.set a (.lst (L2 ++ [D.kin 0 0 "line"]))) b = some ((cellsT r).map tupT) := by rw [lst_set_ne hab.symm]; exact hb
      have ff2 : M.Fr M.noS h (h5.set a (.lst (L2 ++ [D.kin 0 0 "line"]))) := ⟨by rw [List.length_set]; exact ff.le, fun q hq n => by rw [List.getElem?_set_ne (by omega)]; exact ff.kp q hq n⟩
      have ok : okKinD 0 0 "line" := by decide +kernel
      have ei : ((x :: L2).eraseIdx 0) = L2 := rfl
      have q := law_kin_eq (h := h5.set a (.lst L2)) ok
      clear hb ff hk ok
      walk_at "evs"
      walk_at "fo"
      refine all_cells_ok h0 h1 fun h6 g2 => ?_
      have f2 := g2.fr
      have ha := g2.at_
      rw [List.length_set] at ha
      have hb := f2.lst hb2 id
      clear g2 ha2 ei q
      walk_at "evs"
      walk_at "fo"
      refine are_kins_ok ha hb (by omega) fun g => ?_
      have kk := k (h6 ++ g) ((ff2.trans f2).trans .app)
      generalize h6 ++ g = h7 at *
      walk_at "evs" <;> exact kk
    | _ => exact ho.elim
theorem all_cells_bad {r : Int} {h : Mh} (n : ¬ (1 ≤ r ∧ r ≤ 4)) : f_all_cells [.int r] h = .er ⟨"BadReach", [("number", .int r), ("reason", .str "bad reach")]⟩ [] h := by
  unfold f_all_cells b_all_cells
  have q := demand_bad (h := h) n
  walk_at "evs"
theorem refused_ok {r : Int} {h : Mh} (n : ¬ (1 ≤ r ∧ r ≤ 4)) : f__law_refused [.int r] h = .ok (.bl true) (h ++ [.lst [.int r, .str "bad reach"]] ++ [.lst [.int r, .str "bad reach"]]) := by
  unfold f__law_refused b__law_refused
  have q := all_cells_bad (h := h) n
  have q2 := same_two (h := h) (xs := [.int r, .str "bad reach"]) rfl rfl
  generalize f__law_same 6 = fs at q2 ⊢
  unfold sub_BadReach isc_BadCell isc_BadKin xfc_number xfc_reason
  walk_at "evs"
theorem base_ok {r : Int} {h : Mh} (n : ¬ (1 ≤ r ∧ r ≤ 4)) : f__law_base [.int r] h = .ok (.bl true) h := by
  unfold f__law_base b__law_base sub_ForkError isc_ValueError isc_BadReach
  have q := all_cells_bad (h := h) n
  walk_at "evs"
theorem law_ok (ns : List Int) (hn : ns.length ≤ 63) : ∃ h', f_law [.scr (ns.map D.int)] [] = .ok (.bl true) h' := by
  refine ok_of_sat ?_
  unfold f_law b_law
  have e0 := start_eq (ns := ns) (h := [])
  have dr := start_dr hn
  walk_at "evs"
  generalize D.scr (ns.map D.int) = scr
  clear e0 hn
  walk_at "fo"
  refine draw_ok (many := 4) dr (by decide) (by decide) fun r h2 r0 r1 dr2 _ => ?_
  have h0 : 1 ≤ 1 + r := by omega
  have h1 : 1 + r ≤ 4 := by omega
  clear dr r0 r1
  walk_at "evs"
  generalize 1 + r = r at *
  walk_at "fo"
  refine law_cells_ok h0 h1 fun h3 g1 => ?_
  have dr3 := dr2.fr g1.fr fun _ z => z.elim
  have hc := g1.at_
  have hq : h2.length ≠ 1 := Nat.ne_of_gt dr2.lt
  generalize h2.length = c at *
  clear dr2 g1
  obtain ⟨c1, c2, c3⟩ := cells_len h0 h1
  clear c1
  have hk : ∀ c ∈ cellsT r, okKinD c.1 c.2.1 c.2.2 := fun c hc => (kinT_ok h0 h1 hc).1
  have hll : (((cellsT r).map tupT).length : Int) = ((cellsT r).length : Int) := by rw [List.length_map]
  walk_at "evs"
  walk_at "fo"
  refine draw_ok (many := ((cellsT r).length : Int)) dr3 (by omega) (by omega) fun j h4 j0 j1 dr4 f4 => ?_
  replace hc := f4.lst hc hq
  obtain ⟨⟨u, d, s⟩, hx⟩ : ∃ c, (cellsT r)[j.toNat]? = some c := ⟨_, List.getElem?_eq_getElem (by omega)⟩
  have x2 : atI ((cellsT r).map tupT) j = some (.tup [.int u, .int d, .str s]) := by
    have : j = ((j.toNat : Nat) : Int) := by omega
    rw [this, atI_nt, List.getElem?_map, hx]
    rfl
  have ok : okKinD u d s := hk _ (List.mem_of_getElem? hx)
  clear hk hx j0 j1 c2 c3 hll dr3 f4 hq
  walk_at "evs"
  clear hc x2
  walk_at "fo"
  refine draw_ok (many := 16) dr4 (by decide) (by decide) fun n h5 n0 n1 dr5 f5 => ?_
  clear n0 n1 f5 dr4
  walk_at "evs"
  walk_at "fo"
  refine draw_ok (many := 4) dr5 (by decide) (by decide) fun w h6 w0 w1 dr6 f6 => ?_
  clear w0 w1 f6 dr5
  walk_at "evs"
  walk_at "fo"
  refine Rs.sat.mono (P := Mnx fun e h' => ∃ m : Int, e = [some scr, some (.ref 1), some (.int r), some (.ref c), some (.tup [.int u, .int d, .str s]), some (.int m), none]) ?_ ?_ (fun _ _ _ z => z)
  · refine sat_ite (fun hc => ?_) fun hc => ?_
    · clear hc
      have p : CPow 10 9 := by decide
      walk_at "evs"
      walk_at "fo"
      refine draw_ok (many := 10 ^ Int.toNat 9) dr6 (by decide) (by decide) fun m h7 m0 m1 dr7 f7 => ?_
      walk_at "evs"
      exact ⟨_, rfl⟩
    · exact ⟨_, rfl⟩
  intro o h7 ho
  clear dr6
  cases o with
  | nx e =>
    obtain ⟨m, rfl⟩ := ho
    have q0 := law_kin_eq (h := h7) ok
    have q1 := cell_text_eq (r := r) (h := h7) ok
    have q2 := law_cell_text_eq (r := r) (h := h7) ok
    have q3 := same_ok (h := h7 ++ [.lst [.int u, .int d]]) 5 (.str (cellS u d s r)) (.str (cellS u d s r)) (same_sc rfl)
    generalize f__law_same (5 + 1) = fs at q3 ⊢
    generalize cellS u d s r = cs at *
    clear ok
    have hl : lstAt (h7 ++ [.lst [.int u, .int d]] ++ [.lst [.int r, .int 1, .int 2, .int 3, .int 4]]) (h7.length + 1) = some [.int r, .int 1, .int 2, .int 3, .int 4] := at_lst (by simp)
    walk_at "evs"
    clear q0 q1 q2 q3
    generalize h7.length + 1 = b at *
    generalize h7 ++ [.lst [.int u, .int d]] ++ [.lst [.int r, .int 1, .int 2, .int 3, .int 4]] = h8 at *
    generalize hL : [D.int r, .int 1, .int 2, .int 3, .int 4] = L at *
    have hin : ∀ x ∈ L, ∃ i : Int, x = .int i ∧ 1 ≤ i ∧ i ≤ 4 := by
      rw [← hL]
      intro x hx
      simp only [List.mem_cons, List.not_mem_nil, or_false] at hx
      rcases hx with rfl | rfl | rfl | rfl | rfl
      · exact ⟨_, rfl, h0, h1⟩
      all_goals exact ⟨_, rfl, by decide, by decide⟩
    walk_at "fo"
    refine Rs.sat.mono (P := Mnx fun e h' => ∃ o, e = [some scr, some (.ref 1), some (.int r), some (.ref c), some (.tup [.int u, .int d, .str s]), some (.int m), o]) ?_ ?_ (fun _ _ _ z => z)
    · refine loop_inv (fun i e h' => lstAt h' b = some L ∧ ∃ o, e = [some scr, some (.ref 1), some (.int r), some (.ref c), some (.tup [.int u, .int d, .str s]), some (.int m), o])
        (fun i e h' hh q hq => by cases hq; exact hh.1) ⟨hl, _, rfl⟩ (fun i x e h' hx hh => ?_) fun e h' hh => hh.2
      clear hl
      obtain ⟨hl, o, rfl⟩ := hh
      obtain ⟨i2, rfl, i0, i1⟩ := hin x (List.mem_of_getElem? hx)
      clear hin hx hL
      walk_at "evs"
      walk_at "fo"
      refine listed_ok i0 i1 fun h9 f9 => ?_
      replace hl := f9.lst hl id
      clear f9
      unfold LoopP
      walk_at "evs"
      first | exact ⟨hl, _, rfl⟩ | exact ⟨_, rfl⟩
    intro o h9 ho
    clear hl hin hL
    cases o with
    | nx e =>
      obtain ⟨o, rfl⟩ := ho
      have hl : lstAt (h9 ++ [.lst [.int m, .int (0 - m), .int 0, .int 5]]) h9.length = some [.int m, .int (0 - m), .int 0, .int 5] := lst_new
      walk_at "evs"
      generalize h9.length = b2 at *
      generalize h9 ++ [.lst [.int m, .int (0 - m), .int 0, .int 5]] = h10 at *
      generalize hL : [D.int m, .int (0 - m), .int 0, .int 5] = L2 at *
      have hin : ∀ x ∈ L2, ∃ i : Int, x = .int i := by
        rw [← hL]
        intro x hx
        simp only [List.mem_cons, List.not_mem_nil, or_false] at hx
        rcases hx with rfl | rfl | rfl | rfl <;> exact ⟨_, rfl⟩
      walk_at "fo"
      refine Rs.sat.mono (P := Mnx fun e h' => ∃ o, e = [some scr, some (.ref 1), some (.int r), some (.ref c), some (.tup [.int u, .int d, .str s]), some (.int m), o]) ?_ ?_ (fun _ _ _ z => z)
      · refine loop_inv (fun i e h' => lstAt h' b2 = some L2 ∧ ∃ o, e = [some scr, some (.ref 1), some (.int r), some (.ref c), some (.tup [.int u, .int d, .str s]), some (.int m), o])
          (fun i e h' hh q hq => by cases hq; exact hh.1) ⟨hl, _, rfl⟩ (fun i x e h' hx hh => ?_) fun e h' hh => hh.2
        clear hl
        obtain ⟨hl, o, rfl⟩ := hh
        obtain ⟨i2, rfl⟩ := hin x (List.mem_of_getElem? hx)
        clear hin hx hL
        unfold LoopP
        by_cases z1 : 1 ≤ i2
        · by_cases z2 : i2 ≤ 4
          · walk_at "evs"
            first | exact ⟨hl, _, rfl⟩ | exact ⟨_, rfl⟩
          · have q := refused_ok (r := i2) (h := h') fun z => z2 z.2
            have hl2 := lst_apps (g := [.lst [.int i2, .str "bad reach"]]) (lst_apps (g := [.lst [.int i2, .str "bad reach"]]) hl)
            walk_at "evs"
            first | exact ⟨hl2, _, rfl⟩ | exact ⟨_, rfl⟩
        · have q := refused_ok (r := i2) (h := h') fun z => z1 z.1
          have hl2 := lst_apps (g := [.lst [.int i2, .str "bad reach"]]) (lst_apps (g := [.lst [.int i2, .str "bad reach"]]) hl)
          walk_at "evs"
          first | exact ⟨hl2, _, rfl⟩ | exact ⟨_, rfl⟩
      intro o h11 ho
      clear hl hin hL
      cases o with
      | nx e =>
        obtain ⟨o, rfl⟩ := ho
        have q1 := base_ok (r := 5 + r) (h := h11) fun z => by omega
        have q2 := base_ok (r := 0 - r) (h := h11) fun z => by omega
        walk_at "evs"
      | _ => exact ho.elim
    | _ => exact ho.elim
  | _ => exact ho.elim

end K14

open PySem PySem.Spec PyProof.Rows L2 Z
/-! steps of a walk: zm: is among the chunks; zr: is put in its place; z1: one stop that asks nothing -/
local macro_rules | `(tactic| walk_at "zm") => `(tactic| (repeat (first | assumption | exact List.Mem.head _ | refine List.Mem.tail _ ?_)))
local macro_rules | `(tactic| walk_at "zr") => `(tactic| (repeat (first | exact Rep.here | refine Rep.there ?_)))
local macro_rules | `(tactic| walk_at "zp") => `(tactic| (repeat (first | exact Pull.here | refine Pull.there ?_)))
local macro_rules | `(tactic| walk_at "zps") => `(tactic| (repeat (first | exact Pulls.nil | refine Pulls.cons (by walk_at "zp") ?_)))
local macro_rules | `(tactic| walk_at "zc") => `(tactic| (first | with_reducible assumption | with_reducible rfl | omega | decide | exact zcmul_r (by decide) | exact zcmul_l (by decide) | exact ⟨by decide, by decide +kernel⟩ | exact ⟨by decide, by decide, by decide⟩ | exact ⟨rfl, by simp only [List.length_cons, List.length_nil]; decide⟩ | ((try rw [sizeLine_eq]); simp only [Str.length_append, List.length_cons, List.length_nil, List.length_append, List.length_map, List.length_set, List.map_cons, List.map_nil]; omega) | (rw [sizeLine_eq]; omega)))
local macro_rules | `(tactic| walk_at "z1") => `(tactic| ((conv => whnf); first | exact True.intro | refine zif_t rfl ?_ | refine zif_f Bool.false_ne_true ?_ | refine zget (by assumption) (by walk_at "zm") ?_ | walk_at "zx" | refine znew (by assumption) fun _ _ _ => ?_ | refine zmake (by assumption) fun _ _ _ _ => ?_ | refine ZFl.mk ⟨by assumption, by assumption, _, rfl, ?_⟩ | refine ZCn.mk ⟨by assumption, rfl, _, _, by assumption, ?_⟩ | refine ZFs.mk ⟨by assumption, by assumption, Nat.le_of_ble_eq_true rfl, ?_⟩ | refine ZMt.mk ⟨rfl, rfl, ?_⟩ | refine zty_kt (by assumption) ?_ | refine zsq_K (by assumption) ?_ | refine zset (by assumption) (by walk_at "zr") fun _ _ => ?_ | refine zsq_l (by assumption) (by walk_at "zm") ?_ | refine zsq_t (by assumption) (by walk_at "zm") ?_ | refine ztyp_l (by assumption) (by walk_at "zm") ?_ | refine ztyp_t (by assumption) (by walk_at "zm") ?_ | refine zsq_L (by assumption) ?_ | refine zsq_T (by assumption) ?_ | refine ztyp_L (by assumption) ?_ | refine ztyp_T (by assumption) ?_ | refine zty_s ?_ | refine zty_l (by assumption) (by walk_at "zm") ?_ | refine ZSide.mk (by walk_at "zc") ?_ | refine ZAt.mk ⟨_, rfl, ?_⟩ | refine ZEx.mk ⟨_, rfl, ?_⟩))
local macro_rules | `(tactic| walk_at "z") => `(tactic| ((repeat walk_at "z1"); (try (conv => whnf))))
local macro_rules | `(tactic| walk_at "zx") => `(tactic| (exfalso; fail))
local macro_rules | `(tactic| walk_at "zo") => `(tactic| ((repeat (first | walk_at "z1" | ((conv => whnf); first | refine zif_t (decide_eq_true (by omega)) ?_ | refine zif_f (fun z => absurd (of_decide_eq_true z) (by omega)) ?_))); (try (conv => whnf))))
namespace K14
open PySem PySem.Spec PyProof.Rows L2 Z M
def top (i : Nat) : Stmt := PySem.Challenge.pw_forkwaits_k14_cells_of_a_reach.main.body.getD i (.Pass ⟨0, 0, 0, 0⟩)
def inn (i j : Nat) : Stmt := match top i with
  | .ClassDef (body := b) .. => b.getD j (.Pass ⟨0, 0, 0, 0⟩)
  | _ => .Pass ⟨0, 0, 0, 0⟩
abbrev st_fits_side : Stmt := top 15
def d_fits_side : He.DefD := ⟨("fits_side", none), "fits_side", "fits_side", defArgs st_fits_side, defBody st_fits_side, defScope st_fits_side, [], []⟩
abbrev st_Kin___init__ : Stmt := inn 16 1
def d_Kin___init__ : He.DefD := ⟨("Kin", some "__init__"), "__init__", "Kin.__init__", defArgs st_Kin___init__, defBody st_Kin___init__, defScope st_Kin___init__, [], []⟩
abbrev st_demand_reach : Stmt := top 22
def d_demand_reach : He.DefD := ⟨("demand_reach", none), "demand_reach", "demand_reach", defArgs st_demand_reach, defBody st_demand_reach, defScope st_demand_reach, [], []⟩
abbrev st_all_cells : Stmt := top 23
def d_all_cells : He.DefD := ⟨("all_cells", none), "all_cells", "all_cells", defArgs st_all_cells, defBody st_all_cells, defScope st_all_cells, [], []⟩
abbrev st__law_base : Stmt := top 39
def d__law_base : He.DefD := ⟨("_law_base", none), "_law_base", "_law_base", defArgs st__law_base, defBody st__law_base, defScope st__law_base, [], []⟩
abbrev st__law_is_number : Stmt := top 29
def d__law_is_number : He.DefD := ⟨("_law_is_number", none), "_law_is_number", "_law_is_number", defArgs st__law_is_number, defBody st__law_is_number, defScope st__law_is_number, [], []⟩
abbrev st__law_same : Stmt := top 30
def d__law_same : He.DefD := ⟨("_law_same", none), "_law_same", "_law_same", defArgs st__law_same, defBody st__law_same, defScope st__law_same, [], []⟩
abbrev st__law_refused : Stmt := top 38
def d__law_refused : He.DefD := ⟨("_law_refused", none), "_law_refused", "_law_refused", defArgs st__law_refused, defBody st__law_refused, defScope st__law_refused, [], []⟩
abbrev st__law_is_kin : Stmt := top 33
def d__law_is_kin : He.DefD := ⟨("_law_is_kin", none), "_law_is_kin", "_law_is_kin", defArgs st__law_is_kin, defBody st__law_is_kin, defScope st__law_is_kin, [], []⟩
abbrev st__law_are_kins : Stmt := top 34
def d__law_are_kins : He.DefD := ⟨("_law_are_kins", none), "_law_are_kins", "_law_are_kins", defArgs st__law_are_kins, defBody st__law_are_kins, defScope st__law_are_kins, [], []⟩
abbrev st__law_kin : Stmt := top 32
def d__law_kin : He.DefD := ⟨("_law_kin", none), "_law_kin", "_law_kin", defArgs st__law_kin, defBody st__law_kin, defScope st__law_kin, [], []⟩
abbrev st__law_cell_text : Stmt := top 36
def d__law_cell_text : He.DefD := ⟨("_law_cell_text", none), "_law_cell_text", "_law_cell_text", defArgs st__law_cell_text, defBody st__law_cell_text, defScope st__law_cell_text, [], []⟩
abbrev st_number_text : Stmt := top 24
def d_number_text : He.DefD := ⟨("number_text", none), "number_text", "number_text", defArgs st_number_text, defBody st_number_text, defScope st_number_text, [], []⟩
abbrev st_cell_text : Stmt := top 25
def d_cell_text : He.DefD := ⟨("cell_text", none), "cell_text", "cell_text", defArgs st_cell_text, defBody st_cell_text, defScope st_cell_text, [], []⟩
abbrev st__law_sides : Stmt := top 31
def d__law_sides : He.DefD := ⟨("_law_sides", none), "_law_sides", "_law_sides", defArgs st__law_sides, defBody st__law_sides, defScope st__law_sides, [], []⟩
abbrev st__law_cells : Stmt := top 35
def d__law_cells : He.DefD := ⟨("_law_cells", none), "_law_cells", "_law_cells", defArgs st__law_cells, defBody st__law_cells, defScope st__law_cells, [], []⟩
abbrev st__law_listed : Stmt := top 37
def d__law_listed : He.DefD := ⟨("_law_listed", none), "_law_listed", "_law_listed", defArgs st__law_listed, defBody st__law_listed, defScope st__law_listed, [], []⟩
abbrev st__law_draw : Stmt := top 28
def d__law_draw : He.DefD := ⟨("_law_draw", none), "_law_draw", "_law_draw", defArgs st__law_draw, defBody st__law_draw, defScope st__law_draw, [], []⟩
abbrev st__law_start : Stmt := top 27
def d__law_start : He.DefD := ⟨("_law_start", none), "_law_start", "_law_start", defArgs st__law_start, defBody st__law_start, defScope st__law_start, [], []⟩
abbrev st_law : Stmt := top 40
def d_law : He.DefD := ⟨("law", none), "law", "law", defArgs st_law, defBody st_law, defScope st_law, [], []⟩
abbrev si_ForkError : Stmt := inn 2 0
def u_ForkError : SupD := ⟨"ForkError", "__init__", "__init__", "ForkError.__init__", defArgs si_ForkError, defBody si_ForkError, defScope si_ForkError⟩
abbrev si_BadKin : Stmt := inn 3 0
def u_BadKin : SupD := ⟨"BadKin", "__init__", "__init__", "BadKin.__init__", defArgs si_BadKin, defBody si_BadKin, defScope si_BadKin⟩
abbrev si_BadReach : Stmt := inn 4 0
def u_BadReach : SupD := ⟨"BadReach", "__init__", "__init__", "BadReach.__init__", defArgs si_BadReach, defBody si_BadReach, defScope si_BadReach⟩
structure Hd (P : Program) (w : World) (K : PySem.W.Frag) (mg : Str → Option Value) : Prop where
  top : (P.main.scope.names.lookup ("super" : Str)).isSome = false
  fr_ValueError : mg "ValueError" = none
  fr_bool : mg "bool" = none
  fr_int : mg "int" = none
  fr_isinstance : mg "isinstance" = none
  fr_len : mg "len" = none
  fr_list : mg "list" = none
  fr_range : mg "range" = none
  fr_str : mg "str" = none
  fr_super : mg "super" = none
  fr_tuple : mg "tuple" = none
  c_LEAST_REACH : ∃ t, mg "LEAST_REACH" = some (.int 1 t)
  c_MOST_REACH : ∃ t, mg "MOST_REACH" = some (.int 4 t)
  g_SIDES : mg "SIDES" = some (.ref (He.ga K "SIDES"))
  t_SIDES : KTup K (He.ga K "SIDES") [.str "line", .str "elder", .str "younger"]
  g_ForkError : mg "ForkError" = some (.ref (He.ga K "ForkError"))
  g_BadKin : mg "BadKin" = some (.ref (He.ga K "BadKin"))
  g_BadReach : mg "BadReach" = some (.ref (He.ga K "BadReach"))
  g_BadCell : mg "BadCell" = some (.ref (He.ga K "BadCell"))
  g_BadText : mg "BadText" = some (.ref (He.ga K "BadText"))
  g_Kin : mg "Kin" = some (.ref (He.ga K "Kin"))
  cl_Kin : Cls K (He.ga K "Kin")
  ow_Kin : OwnI K (He.ga K "Kin")
  mk_Kin : Mk K (He.ga K "Kin") (He.ma K (He.ga K "Kin") "__init__")
  na_Kin_down : NoAttr K (He.ga K "Kin") "down"
  na_Kin_far : NoAttr K (He.ga K "Kin") "far"
  na_Kin_rank : NoAttr K (He.ga K "Kin") "rank"
  na_Kin_side : NoAttr K (He.ga K "Kin") "side"
  na_Kin_up : NoAttr K (He.ga K "Kin") "up"
  cn_Kin_MOST : ∃ u, Con K (He.ga K "Kin") "MOST" (.int 999) u
  gd_fits_side : mg "fits_side" = some (.ref (He.fAd K ("fits_side", none)))
  d_fits_side : ∃ fd, FunD K "fits_side" "fits_side" (defArgs st_fits_side) (defBody st_fits_side) (defScope st_fits_side) [] [] (He.fAd K ("fits_side", none)) fd
  d_Kin___init__ : ∃ fd, FunD K "__init__" "Kin.__init__" (defArgs st_Kin___init__) (defBody st_Kin___init__) (defScope st_Kin___init__) [] [] (He.ma K (He.ga K "Kin") "__init__") fd
  gd_demand_reach : mg "demand_reach" = some (.ref (He.fAd K ("demand_reach", none)))
  d_demand_reach : ∃ fd, FunD K "demand_reach" "demand_reach" (defArgs st_demand_reach) (defBody st_demand_reach) (defScope st_demand_reach) [] [] (He.fAd K ("demand_reach", none)) fd
  gd_all_cells : mg "all_cells" = some (.ref (He.fAd K ("all_cells", none)))
  d_all_cells : ∃ fd, FunD K "all_cells" "all_cells" (defArgs st_all_cells) (defBody st_all_cells) (defScope st_all_cells) [] [] (He.fAd K ("all_cells", none)) fd
  gd__law_base : mg "_law_base" = some (.ref (He.fAd K ("_law_base", none)))
  d__law_base : ∃ fd, FunD K "_law_base" "_law_base" (defArgs st__law_base) (defBody st__law_base) (defScope st__law_base) [] [] (He.fAd K ("_law_base", none)) fd
  gd__law_is_number : mg "_law_is_number" = some (.ref (He.fAd K ("_law_is_number", none)))
  d__law_is_number : ∃ fd, FunD K "_law_is_number" "_law_is_number" (defArgs st__law_is_number) (defBody st__law_is_number) (defScope st__law_is_number) [] [] (He.fAd K ("_law_is_number", none)) fd
  gd__law_same : mg "_law_same" = some (.ref (He.fAd K ("_law_same", none)))
  d__law_same : ∃ fd, FunD K "_law_same" "_law_same" (defArgs st__law_same) (defBody st__law_same) (defScope st__law_same) [] [] (He.fAd K ("_law_same", none)) fd
  gd__law_refused : mg "_law_refused" = some (.ref (He.fAd K ("_law_refused", none)))
  d__law_refused : ∃ fd, FunD K "_law_refused" "_law_refused" (defArgs st__law_refused) (defBody st__law_refused) (defScope st__law_refused) [] [] (He.fAd K ("_law_refused", none)) fd
  gd__law_is_kin : mg "_law_is_kin" = some (.ref (He.fAd K ("_law_is_kin", none)))
  d__law_is_kin : ∃ fd, FunD K "_law_is_kin" "_law_is_kin" (defArgs st__law_is_kin) (defBody st__law_is_kin) (defScope st__law_is_kin) [] [] (He.fAd K ("_law_is_kin", none)) fd
  gd__law_are_kins : mg "_law_are_kins" = some (.ref (He.fAd K ("_law_are_kins", none)))
  d__law_are_kins : ∃ fd, FunD K "_law_are_kins" "_law_are_kins" (defArgs st__law_are_kins) (defBody st__law_are_kins) (defScope st__law_are_kins) [] [] (He.fAd K ("_law_are_kins", none)) fd
  gd__law_kin : mg "_law_kin" = some (.ref (He.fAd K ("_law_kin", none)))
  d__law_kin : ∃ fd, FunD K "_law_kin" "_law_kin" (defArgs st__law_kin) (defBody st__law_kin) (defScope st__law_kin) [] [] (He.fAd K ("_law_kin", none)) fd
  gd__law_cell_text : mg "_law_cell_text" = some (.ref (He.fAd K ("_law_cell_text", none)))
  d__law_cell_text : ∃ fd, FunD K "_law_cell_text" "_law_cell_text" (defArgs st__law_cell_text) (defBody st__law_cell_text) (defScope st__law_cell_text) [] [] (He.fAd K ("_law_cell_text", none)) fd
  gd_number_text : mg "number_text" = some (.ref (He.fAd K ("number_text", none)))
  d_number_text : ∃ fd, FunD K "number_text" "number_text" (defArgs st_number_text) (defBody st_number_text) (defScope st_number_text) [] [] (He.fAd K ("number_text", none)) fd
  gd_cell_text : mg "cell_text" = some (.ref (He.fAd K ("cell_text", none)))
  d_cell_text : ∃ fd, FunD K "cell_text" "cell_text" (defArgs st_cell_text) (defBody st_cell_text) (defScope st_cell_text) [] [] (He.fAd K ("cell_text", none)) fd
  gd__law_sides : mg "_law_sides" = some (.ref (He.fAd K ("_law_sides", none)))
  d__law_sides : ∃ fd, FunD K "_law_sides" "_law_sides" (defArgs st__law_sides) (defBody st__law_sides) (defScope st__law_sides) [] [] (He.fAd K ("_law_sides", none)) fd
  gd__law_cells : mg "_law_cells" = some (.ref (He.fAd K ("_law_cells", none)))
  d__law_cells : ∃ fd, FunD K "_law_cells" "_law_cells" (defArgs st__law_cells) (defBody st__law_cells) (defScope st__law_cells) [] [] (He.fAd K ("_law_cells", none)) fd
  gd__law_listed : mg "_law_listed" = some (.ref (He.fAd K ("_law_listed", none)))
  d__law_listed : ∃ fd, FunD K "_law_listed" "_law_listed" (defArgs st__law_listed) (defBody st__law_listed) (defScope st__law_listed) [] [] (He.fAd K ("_law_listed", none)) fd
  gd__law_draw : mg "_law_draw" = some (.ref (He.fAd K ("_law_draw", none)))
  d__law_draw : ∃ fd, FunD K "_law_draw" "_law_draw" (defArgs st__law_draw) (defBody st__law_draw) (defScope st__law_draw) [] [] (He.fAd K ("_law_draw", none)) fd
  gd__law_start : mg "_law_start" = some (.ref (He.fAd K ("_law_start", none)))
  d__law_start : ∃ fd, FunD K "_law_start" "_law_start" (defArgs st__law_start) (defBody st__law_start) (defScope st__law_start) [] [] (He.fAd K ("_law_start", none)) fd
  gd_law : mg "law" = some (.ref (He.fAd K ("law", none)))
  d_law : ∃ fd, FunD K "law" "law" (defArgs st_law) (defBody st_law) (defScope st_law) [] [] (He.fAd K ("law", none)) fd
  s_ForkError : ∃ cda cc fd, SupFn P K (He.ga K "ForkError") (He.ma K (He.ga K "ForkError") "__init__") "__init__" "ForkError.__init__" (defArgs si_ForkError) (defBody si_ForkError) (defScope si_ForkError) cda cc fd
  s_BadKin : ∃ cda cc fd, SupFn P K (He.ga K "BadKin") (He.ma K (He.ga K "BadKin") "__init__") "__init__" "BadKin.__init__" (defArgs si_BadKin) (defBody si_BadKin) (defScope si_BadKin) cda cc fd
  s_BadReach : ∃ cda cc fd, SupFn P K (He.ga K "BadReach") (He.ma K (He.ga K "BadReach") "__init__") "__init__" "BadReach.__init__" (defArgs si_BadReach) (defBody si_BadReach) (defScope si_BadReach) cda cc fd
  k_BadKin : Kid K "BadKin" "ForkError" ["reason", "up", "down", "side"]
  k_BadReach : Kid K "BadReach" "ForkError" ["reason", "number"]
  x_BadKin_BadReach : PySem.W.exmOne K (.ref (He.ga K "BadKin")) (.ref (He.ga K "BadReach")) = some false
  x_BadKin_ForkError : PySem.W.exmOne K (.ref (He.ga K "BadKin")) (.ref (He.ga K "ForkError")) = some true
  i_BadKin_BadCell : PySem.W.kitOne K (.ref (He.ga K "BadKin")) (.ref (He.ga K "BadCell")) = some false
  i_BadKin_BadKin : PySem.W.kitOne K (.ref (He.ga K "BadKin")) (.ref (He.ga K "BadKin")) = some true
  i_BadKin_BadReach : PySem.W.kitOne K (.ref (He.ga K "BadKin")) (.ref (He.ga K "BadReach")) = some false
  i_BadKin_ValueError : PySem.W.kitOne K (.ref (He.ga K "BadKin")) (.type "ValueError") = some true
  x_BadReach_BadReach : PySem.W.exmOne K (.ref (He.ga K "BadReach")) (.ref (He.ga K "BadReach")) = some true
  x_BadReach_ForkError : PySem.W.exmOne K (.ref (He.ga K "BadReach")) (.ref (He.ga K "ForkError")) = some true
  i_BadReach_BadCell : PySem.W.kitOne K (.ref (He.ga K "BadReach")) (.ref (He.ga K "BadCell")) = some false
  i_BadReach_BadKin : PySem.W.kitOne K (.ref (He.ga K "BadReach")) (.ref (He.ga K "BadKin")) = some false
  i_BadReach_BadReach : PySem.W.kitOne K (.ref (He.ga K "BadReach")) (.ref (He.ga K "BadReach")) = some true
  i_BadReach_ValueError : PySem.W.kitOne K (.ref (He.ga K "BadReach")) (.type "ValueError") = some true
section
variable {P : Program} {w : World} {K : PySem.W.Frag} {mg : Str → Option Value} {base : Heap}
theorem tx_ForkError : InitTx ["reason"] [.par 0] [("reason", .par 0)] (defArgs si_ForkError) (defBody si_ForkError) (defScope si_ForkError) := by
  refine ⟨⟨_, rfl, rfl⟩, rfl, rfl, rfl, rfl, rfl, rfl, by decide +kernel, by decide +kernel, by decide +kernel, ?_⟩
  exact ⟨_, _, _, _, _, _, _, _, rfl, .cons (SrcE.par rfl (by decide)) (.nil), .cons (StE.mk (SrcE.par rfl (by decide))) (.nil), fun env => ⟨_, rfl⟩⟩
theorem tx_BadKin : InitTx ["up", "down", "side"] [.cst "bad kin"] [("up", .par 0), ("down", .par 1), ("side", .par 2)] (defArgs si_BadKin) (defBody si_BadKin) (defScope si_BadKin) := by
  refine ⟨⟨_, rfl, rfl⟩, rfl, rfl, rfl, rfl, rfl, rfl, by decide +kernel, by decide +kernel, by decide +kernel, ?_⟩
  exact ⟨_, _, _, _, _, _, _, _, rfl, .cons (SrcE.cst) (.nil), .cons (StE.mk (SrcE.par rfl (by decide))) (.cons (StE.mk (SrcE.par rfl (by decide))) (.cons (StE.mk (SrcE.par rfl (by decide))) (.nil))), fun env => ⟨_, rfl⟩⟩
theorem tx_BadReach : InitTx ["number"] [.cst "bad reach"] [("number", .par 0)] (defArgs si_BadReach) (defBody si_BadReach) (defScope si_BadReach) := by
  refine ⟨⟨_, rfl, rfl⟩, rfl, rfl, rfl, rfl, rfl, rfl, by decide +kernel, by decide +kernel, by decide +kernel, ?_⟩
  exact ⟨_, _, _, _, _, _, _, _, rfl, .cons (SrcE.cst) (.nil), .cons (StE.mk (SrcE.par rfl (by decide))) (.nil), fun env => ⟨_, rfl⟩⟩
theorem er_BadKin (h : Hd P w K mg) : ErrOk P w K mg "BadKin" (He.ga K "BadKin") 2 3 (mkVF [("side", .par 2), ("down", .par 1), ("up", .par 0), ("reason", .cst "bad kin")]) :=
  kid_err h.k_BadKin h.g_BadKin h.fr_super h.top h.s_BadKin h.s_ForkError tx_BadKin tx_ForkError (fun doc pm an cda ct cc u us hl => match us, hl with | [_, _, _], _ => rfl) (fun doc pm an cda ct cc u us hl => match us, hl with | [_], _ => rfl) (by decide) (by decide) rfl (by decide) (by decide)
theorem er_BadReach (h : Hd P w K mg) : ErrOk P w K mg "BadReach" (He.ga K "BadReach") 2 1 (mkVF [("number", .par 0), ("reason", .cst "bad reach")]) :=
  kid_err h.k_BadReach h.g_BadReach h.fr_super h.top h.s_BadReach h.s_ForkError tx_BadReach tx_ForkError (fun doc pm an cda ct cc u us hl => match us, hl with | [_], _ => rfl) (fun doc pm an cda ct cc u us hl => match us, hl with | [_], _ => rfl) (by decide) (by decide) rfl (by decide) (by decide)
theorem exf_BadReach (h : Hd P w K mg) : ExF K (.ref (He.ga K "BadReach")) sub_BadReach := by
  intro c b e
  unfold sub_BadReach at e
  split at e
  · rename_i ec
    cases e
    subst ec
    exact h.x_BadKin_BadReach
  split at e
  · rename_i ec
    cases e
    subst ec
    exact h.x_BadReach_BadReach
  cases e
theorem exf_ForkError (h : Hd P w K mg) : ExF K (.ref (He.ga K "ForkError")) sub_ForkError := by
  intro c b e
  unfold sub_ForkError at e
  split at e
  · rename_i ec
    cases e
    subst ec
    exact h.x_BadKin_ForkError
  split at e
  · rename_i ec
    cases e
    subst ec
    exact h.x_BadReach_ForkError
  cases e
theorem isf_BadCell (h : Hd P w K mg) : IsF K (.ref (He.ga K "BadCell")) isc_BadCell := by
  intro c b e
  unfold isc_BadCell at e
  split at e
  · rename_i ec
    cases e
    subst ec
    exact ⟨h.k_BadKin.is, h.i_BadKin_BadCell⟩
  split at e
  · rename_i ec
    cases e
    subst ec
    exact ⟨h.k_BadReach.is, h.i_BadReach_BadCell⟩
  cases e
theorem isf_BadKin (h : Hd P w K mg) : IsF K (.ref (He.ga K "BadKin")) isc_BadKin := by
  intro c b e
  unfold isc_BadKin at e
  split at e
  · rename_i ec
    cases e
    subst ec
    exact ⟨h.k_BadKin.is, h.i_BadKin_BadKin⟩
  split at e
  · rename_i ec
    cases e
    subst ec
    exact ⟨h.k_BadReach.is, h.i_BadReach_BadKin⟩
  cases e
theorem isf_BadReach (h : Hd P w K mg) : IsF K (.ref (He.ga K "BadReach")) isc_BadReach := by
  intro c b e
  unfold isc_BadReach at e
  split at e
  · rename_i ec
    cases e
    subst ec
    exact ⟨h.k_BadKin.is, h.i_BadKin_BadReach⟩
  split at e
  · rename_i ec
    cases e
    subst ec
    exact ⟨h.k_BadReach.is, h.i_BadReach_BadReach⟩
  cases e
theorem isf_ValueError (h : Hd P w K mg) : IsF K (.type "ValueError") isc_ValueError := by
  intro c b e
  unfold isc_ValueError at e
  split at e
  · rename_i ec
    cases e
    subst ec
    exact ⟨h.k_BadKin.is, h.i_BadKin_ValueError⟩
  split at e
  · rename_i ec
    cases e
    subst ec
    exact ⟨h.k_BadReach.is, h.i_BadReach_ValueError⟩
  cases e
theorem xff_number (h : Hd P w K mg) : XfF K "number" xfc_number := by
  intro c e
  simp only [xfc_number, Bool.or_eq_true, decide_eq_true_eq] at e
  rcases e with rfl
  · exact ⟨h.k_BadReach.is.xf, h.k_BadReach.fs _ (by decide)⟩
theorem xff_reason (h : Hd P w K mg) : XfF K "reason" xfc_reason := by
  intro c e
  simp only [xfc_reason, Bool.or_eq_true, decide_eq_true_eq] at e
  rcases e with rfl | rfl
  · exact ⟨h.k_BadKin.is.xf, h.k_BadKin.fs _ (by decide)⟩
  · exact ⟨h.k_BadReach.is.xf, h.k_BadReach.fs _ (by decide)⟩
theorem iso_Kin (h : Hd P w K mg) : IsO K (.ref (He.ga K "Kin")) tab_is_Kin := by
  intro g b e
  unfold tab_is_Kin at e
  split at e
  · split at e
    · rename_i ec
      cases e
      subst ec
      exact ⟨⟨h.cl_Kin, h.ow_Kin⟩, h.ow_Kin.ki⟩
    · cases e
  · cases e
theorem sc_fits_side : FnScope ["up", "down", "side"] ["up", "down", "side"] (defScope st_fits_side) := ⟨rfl, rfl, rfl, by decide +kernel, rfl, by decide +kernel, by decide +kernel⟩
theorem g_fits_side {m : Bool} (h : Hd P w K mg) : GFn m P w K mg base 1 "fits_side" ["up", "down", "side"] (spM K f_fits_side 3) :=
  gfm_mk (k := 0) h.d_fits_side h.gd_fits_side sc_fits_side (fun kV doc pm an cdv ct us hl => match us, hl with | [_, _, _], _ => rfl) rfl rfl (fun cdv A outer s H E pn cz => ⟨_, (pss_cons (z_if (PW.pt (zt_or (zt_cmp op_eq (z_v 0) pe_int) (zt_or1 (zt_cmp op_eq (z_v 1) pe_int)))) (pss_one (ps_ret (z_cmp op_eq (z_v 2) pe_str))) pss_nil) (pss_one (ps_ret (z_or (z_cmp op_eq (z_v 2) pe_str) (pe_one (z_cmp op_eq (z_v 2) pe_str)))))), (ss_seq (ss_if (sim_or (sim_test (sim_op s_eq (sim_var 0) (sim_c fun _ => wi))) (sim_test (sim_op s_eq (sim_var 1) (sim_c fun _ => wi)))) (ss_ret (sim_op s_eq (sim_var 2) (sim_c fun _ => ws))) ss_next) (ss_ret (sim_orV (sim_op s_eq (sim_var 2) (sim_c fun _ => ws)) (sim_op s_eq (sim_var 2) (sim_c fun _ => ws)))))⟩)
theorem sc_Kin___init__ : FnScope ["self", "up", "down", "side"] ["self", "up", "down", "side"] (defScope st_Kin___init__) := ⟨rfl, rfl, rfl, by decide +kernel, rfl, by decide +kernel, by decide +kernel⟩
theorem g_Kin___init__ (h : Hd P w K mg) : MFn P w K mg base 3 (He.ma K (He.ga K "Kin") "__init__") ["self", "up", "down", "side"] (spKinX K) := by
  refine mfn_mk (k := 2) h.d_Kin___init__ sc_Kin___init__ (fun kV doc pm an cdv ct us hl => match us, hl with | [_, _, _, _], _ => rfl) (fun vs H Q E q => by obtain ⟨x, dx, u, d, s, rfl, _⟩ := q; rfl) (fun cdv A outer s H vs Q E pn cz hsp => ⟨_, (pss_cons (z_if (PW.pt (zt_or (zt_not (zt_chain zLe_ok zLe_ok pe_int (z_v 1) (z_cn K rfl (z_v 0)))) (zt_or (zt_not (zt_chain zLe_ok zLe_ok pe_int (z_v 2) (z_cn K rfl (z_v 0)))) (zt_or1 (zt_not (k_t K rfl (z_call cz.e (g_fits_side (K := K) h) (by omega) (pa_cons (z_v 1) (pa_cons (z_v 2) (pa_cons (z_v 3) pa_nil)))))))))) (pss_one (z_raise cz (er_BadKin (K := K) h) (by decide) (pa_cons (z_v 1) (pa_cons (z_v 2) (pa_cons (z_v 3) pa_nil))))) pss_nil) (pss_cons (z_fset K rfl (z_v 0) (z_v 1)) (pss_cons (z_fset K rfl (z_v 0) (z_v 2)) (pss_cons (z_fset K rfl (z_v 0) (z_v 3)) (pss_cons (z_fset K rfl (z_v 0) (z_bin zAdd_ok (z_v 1) (z_v 2))) (pss_one (z_fset K rfl (z_v 0) (k_meth K rfl PySem.F.plainAttrs_tuple PySem.F.slot_tuple_index PySem.F.type_tuple_index (k_tindex K rfl) (pe_glob (v := .ref (He.ga K "SIDES")) rfl h.g_SIDES rfl) (pa_cons (z_v 3) pa_nil))))))))), ?_⟩)
  have cl := h.cl_Kin
  have na1 := h.na_Kin_up
  have na2 := h.na_Kin_down
  have na3 := h.na_Kin_side
  have na4 := h.na_Kin_far
  have na5 := h.na_Kin_rank
  have t_SIDES := h.t_SIDES
  obtain ⟨uM, cnM⟩ := h.cn_Kin_MOST
  obtain ⟨x, dx, u, d, s, rfl, hx, hY, hN⟩ := hsp
  have bad : ∀ H1, ExtH H H1 → ¬ okKinD u d s → ∀ e, H1 e = none → E (.ref (He.ga K "BadKin")) (some e) (upd H1 e (.xd (badKinF u d s))) := fun H1 x n e z => hN n H1 x e z
  have hx0 : ∀ H1, ExtH H H1 → H1 x = some (.ins (kinC K) dx []) := fun H1 e => e _ _ hx
  have ext0 : ExtH H H := fun _ _ z => z
  refine zcut (fun σ H1 => ExtH H H1 ∧ σ = [some (.ref x), some (.int u), some (.int d), some (.str s)] ∧ okKinD u d s) ?_ fun U hU => ?_
  · intro σ H1 hh
    obtain ⟨e1, eS, ok⟩ := hh
    rw [eS]
    have hx1 := hx0 _ e1
    walk_at "z"
    refine ⟨_, hx1, ?_⟩
    walk_at "z"
    refine ⟨?_⟩
    walk_at "z"
    refine ⟨_, upd_same, ?_⟩
    walk_at "z"
    refine ⟨?_⟩
    walk_at "z"
    refine ⟨_, upd_same, ?_⟩
    walk_at "z"
    refine ⟨?_⟩
    walk_at "z"
    refine ⟨_, upd_same, ?_⟩
    walk_at "z"
    refine ⟨?_⟩
    walk_at "z"
    refine ⟨⟨["line", "elder", "younger"], (if s = "line" then 0 else if s = "elder" then 1 else 2), t_SIDES.sq _, ?_, ?_, ?_⟩⟩
    · rcases ok.2.2 with ⟨_, rfl⟩ | ⟨_, rfl | rfl⟩ <;> decide
    · rcases ok.2.2 with ⟨_, rfl⟩ | ⟨_, rfl | rfl⟩ <;> decide
    · walk_at "z"
      refine ⟨_, upd_same, ?_⟩
      walk_at "z"
      refine ⟨?_⟩
      walk_at "z"
      have q := hY ok H1 e1
      rw [upd_upd, upd_upd, upd_upd, upd_upd]
      exact q
  have hx1 := hx
  walk_at "z"
  refine ⟨fun c1 => ?_, fun c1 => ?_⟩
  rotate_left
  · walk_at "z"
    refine ⟨fun e z => ?_⟩
    exact bad _ ext0 (fun ok => c1 (decide_eq_true ok.1.1)) _ z
  walk_at "z"
  refine ⟨_, hx1, ?_⟩
  walk_at "z"
  refine ⟨fun c2 => ?_, fun c2 => ?_⟩
  · walk_at "z"
    refine ⟨fun e z => ?_⟩
    refine bad _ ext0 (fun ok => ?_) _ z
    rw [decide_eq_true ok.1.2] at c2
    cases c2
  walk_at "z"
  refine ⟨fun c3 => ?_, fun c3 => ?_⟩
  rotate_left
  · walk_at "z"
    refine ⟨fun e z => ?_⟩
    exact bad _ ext0 (fun ok => c3 (decide_eq_true ok.2.1.1)) _ z
  walk_at "z"
  refine ⟨_, hx1, ?_⟩
  walk_at "z"
  refine ⟨fun c4 => ?_, fun c4 => ?_⟩
  · walk_at "z"
    refine ⟨fun e z => ?_⟩
    refine bad _ ext0 (fun ok => ?_) _ z
    rw [decide_eq_true ok.2.1.2] at c4
    cases c4
  walk_at "z"
  refine ⟨⟨rfl, w0 H, [.int u, .int d, .str s], rfl, w0_ok, wl1 wi (wl1 wi (wl1 ws wl0)), ?_⟩⟩
  rw [fits_side_eq]
  intro ρ' v H1 n1 r1
  cases rb r1
  have e1 : ExtH H H1 := fun p o z => n1.kp p o z fun a h => absurd h (Nat.not_lt_zero _)
  by_cases hs : ((u = 0 ∨ d = 0) ∧ s = "line") ∨ ((u ≠ 0 ∧ d ≠ 0) ∧ (s = "elder" ∨ s = "younger"))
  · rw [decide_eq_true hs]
    walk_at "z"
    exact hU _ _ ⟨e1, rfl, ⟨of_decide_eq_true c1, by simpa using c2⟩, ⟨of_decide_eq_true c3, by simpa using c4⟩, hs⟩
  · rw [decide_eq_false hs]
    walk_at "z"
    refine ⟨fun e z => ?_⟩
    exact bad _ e1 (fun ok => hs ok.2.2) _ z

theorem sc_demand_reach : FnScope ["reach"] ["reach"] (defScope st_demand_reach) := ⟨rfl, rfl, rfl, by decide +kernel, rfl, by decide +kernel, by decide +kernel⟩
theorem g_demand_reach (h : Hd P w K mg) : GFn true P w K mg base 3 "demand_reach" ["reach"] (spM K f_demand_reach 1) :=
  gfm_mk (k := 2) h.d_demand_reach h.gd_demand_reach sc_demand_reach (fun kV doc pm an cdv ct us hl => match us, hl with | [_], _ => rfl) rfl rfl (fun cdv A outer s H E pn cz => ⟨_, (pss_one (z_if (zt_not (zt_chain zLe_ok zLe_ok (pe_glob (v := .int 1) rfl h.c_LEAST_REACH.choose_spec ⟨_, rfl⟩) (z_v 0) (pe_glob (v := .int 4) rfl h.c_MOST_REACH.choose_spec ⟨_, rfl⟩))) (pss_one (z_raise cz (er_BadReach (K := K) h) (by decide) (pa_cons (z_v 0) pa_nil))) pss_nil)), (ss_if (sim_not (sim_test (sim_chain s_le s_le (sim_c fun _ => wi) (sim_var 0) (sim_c fun _ => wi)))) (ss_raise (sim_cons (sim_var 0) sim_nil)) ss_next)⟩)
theorem sc_all_cells : FnScope ["reach", "cells", "far", "up", "down"] ["reach"] (defScope st_all_cells) := ⟨rfl, rfl, rfl, by decide +kernel, rfl, by decide +kernel, by decide +kernel⟩
theorem g_all_cells (h : Hd P w K mg) : GFn true P w K mg base 5 "all_cells" ["reach"] (spM K f_all_cells 1) :=
  gfm_mk (k := 4) h.d_all_cells h.gd_all_cells sc_all_cells (fun kV doc pm an cdv ct us hl => match us, hl with | [_], _ => rfl) rfl rfl (fun cdv A outer s H E pn cz => ⟨_, (pss_cons (ps_expr (z_call cz.e (g_demand_reach (K := K) h) (by omega) (pa_cons (z_v 0) pa_nil))) (pss_cons (z_set 1 (z_lst pa_nil) sc_all_cells.nd) (pss_cons (z_for cz (z_rng2 h.fr_range (pa_cons pe_int (pa_cons (z_bin zAdd_ok (z_bin zMul_ok pe_int (z_v 0)) pe_int) pa_nil))) (zg_name 2 sc_all_cells.nd) (pss_one (z_forR cz h.fr_range (pa_cons (z_bin zAdd_ok (z_v 0) pe_int) pa_nil) (zg_name 3 sc_all_cells.nd) (pss_cons (z_set 4 (z_bin zSub_ok (z_v 2) (z_v 3)) sc_all_cells.nd) (pss_cons (z_if (PW.pt (zt_or (zt_cmp zLt_ok (z_v 4) pe_int) (zt_or1 (zt_cmp zGt_ok (z_v 4) (z_v 0))))) (pss_one ps_continue) pss_nil) (pss_one (z_if (PW.pt (zt_or (zt_cmp op_eq (z_v 3) pe_int) (zt_or1 (zt_cmp op_eq (z_v 4) pe_int)))) (pss_one (ps_expr (k_meth K rfl PySem.F.plainAttrs_list PySem.F.slot_list_append PySem.F.type_list_append zAppend_ok (z_v 1) (pa_cons (z_make cz.e h.mk_Kin (g_Kin___init__ (K := K) h) (by omega) h.g_Kin (pa_cons (z_v 3) (pa_cons (z_v 4) (pa_cons pe_str pa_nil)))) pa_nil)))) (pss_cons (ps_expr (k_meth K rfl PySem.F.plainAttrs_list PySem.F.slot_list_append PySem.F.type_list_append zAppend_ok (z_v 1) (pa_cons (z_make cz.e h.mk_Kin (g_Kin___init__ (K := K) h) (by omega) h.g_Kin (pa_cons (z_v 3) (pa_cons (z_v 4) (pa_cons pe_str pa_nil)))) pa_nil))) (pss_one (ps_expr (k_meth K rfl PySem.F.plainAttrs_list PySem.F.slot_list_append PySem.F.type_list_append zAppend_ok (z_v 1) (pa_cons (z_make cz.e h.mk_Kin (g_Kin___init__ (K := K) h) (by omega) h.g_Kin (pa_cons (z_v 3) (pa_cons (z_v 4) (pa_cons pe_str pa_nil)))) pa_nil)))))))))))) (pss_one (ps_ret (z_v 1)))))), (ss_seq (ss_drop (se_call mFun_n (sim_cons (sim_var 0) sim_nil))) (ss_seq (ss_asg (sim_lst sim_nil) (sg_name 1 tt_ok)) (ss_seq (ss_for (si_rng2 (sim_cons (sim_c fun _ => wi) (sim_cons (sim_op s_add (sim_op s_mul (sim_c fun _ => wi) (sim_var 0)) (sim_c fun _ => wi)) sim_nil))) (sg_name 2 tt_ok) (ss_for (si_rng1 (sim_cons (sim_op s_add (sim_var 0) (sim_c fun _ => wi)) sim_nil)) (sg_name 3 tt_ok) (ss_seq (ss_asg (sim_op s_sub (sim_var 2) (sim_var 3)) (sg_name 4 tt_ok)) (ss_seq (ss_if (sim_or (sim_test (sim_op s_lt (sim_var 4) (sim_c fun _ => wi))) (sim_test (sim_op s_gt (sim_var 4) (sim_var 0)))) ss_cont ss_next) (ss_if (sim_or (sim_test (sim_op s_eq (sim_var 3) (sim_c fun _ => wi))) (sim_test (sim_op s_eq (sim_var 4) (sim_c fun _ => wi)))) (ss_drop (se_meth s_append (sim_var 1) (sim_cons (se_kin (sim_cons (sim_var 3) (sim_cons (sim_var 4) (sim_cons (sim_c fun _ => ws) sim_nil)))) sim_nil))) (ss_seq (ss_drop (se_meth s_append (sim_var 1) (sim_cons (se_kin (sim_cons (sim_var 3) (sim_cons (sim_var 4) (sim_cons (sim_c fun _ => ws) sim_nil)))) sim_nil))) (ss_drop (se_meth s_append (sim_var 1) (sim_cons (se_kin (sim_cons (sim_var 3) (sim_cons (sim_var 4) (sim_cons (sim_c fun _ => ws) sim_nil)))) sim_nil))))))))) (ss_ret (sim_var 1)))))⟩)
theorem sc__law_base : FnScope ["number", "e"] ["number"] (defScope st__law_base) := ⟨rfl, rfl, rfl, by decide +kernel, rfl, by decide +kernel, by decide +kernel⟩
theorem g__law_base (h : Hd P w K mg) : GFn true P w K mg base 6 "_law_base" ["number"] (spM K f__law_base 1) :=
  gfm_mk (k := 5) h.d__law_base h.gd__law_base sc__law_base (fun kV doc pm an cdv ct us hl => match us, hl with | [_], _ => rfl) rfl rfl (fun cdv A outer s H E pn cz => ⟨_, (pss_cons (z_tryG cz sc__law_base.nd (fun W' pn xe cz1 => (pss_one (ps_expr (z_call cz1.e (g_all_cells (K := K) h) (by omega) (pa_cons (z_v 0) pa_nil))))) (hg_as (i := 1) cz ⟨rfl, by decide, .inl h.g_ForkError⟩ (fun a oe cls d pn hz hf cz2 => (pss_one (ps_ret (z_and (z_callB (k_isE K rfl hz hf) h.fr_isinstance (by decide +kernel) (pa_cons (z_v 1) (pa_cons (pe_bltn (v := .ty "ValueError") rfl h.fr_ValueError (by decide +kernel) rfl) pa_nil))) (pe_one (z_callB (k_isE K rfl hz hf) h.fr_isinstance (by decide +kernel) (pa_cons (z_v 1) (pa_cons (pe_glob (v := .ref (He.ga K "BadReach")) rfl h.g_BadReach rfl) pa_nil)))))))) HdG.nil)) (pss_one (ps_ret pe_bl))), (ss_seq (ss_tryG (fun W' => (ss_drop (se_call mFun_n (sim_cons (sim_var 0) sim_nil)))) (HdSim.named (exf_ForkError h) tt_ok (fun x a cls d => (ss_ret (sim_andV (se_isE (.ty _) (isf_ValueError h)) (se_isE (.own _) (isf_BadReach h))))) HdSim.nil)) (ss_ret (sim_c fun _ => wb)))⟩)
theorem sc__law_is_number : FnScope ["actual"] ["actual"] (defScope st__law_is_number) := ⟨rfl, rfl, rfl, by decide +kernel, rfl, by decide +kernel, by decide +kernel⟩
theorem g__law_is_number {m : Bool} (h : Hd P w K mg) : GFn m P w K mg base 1 "_law_is_number" ["actual"] (spM K f__law_is_number 1) :=
  gfm_mk (k := 0) h.d__law_is_number h.gd__law_is_number sc__law_is_number (fun kV doc pm an cdv ct us hl => match us, hl with | [_], _ => rfl) rfl rfl (fun cdv A outer s H E pn cz => ⟨_, (pss_one (ps_ret (z_and (z_callB (k_isi K rfl) h.fr_isinstance (by decide +kernel) (pa_cons (z_v 0) (pa_cons (pe_bltn (v := .ty "int") rfl h.fr_int (by decide +kernel) rfl) pa_nil))) (pe_one (z_not (z_callB (k_isi K rfl) h.fr_isinstance (by decide +kernel) (pa_cons (z_v 0) (pa_cons (pe_bltn (v := .ty "bool") rfl h.fr_bool (by decide +kernel) rfl) pa_nil)))))))), (ss_ret (sim_andV (se_isi (.ty _) (isO_T .int) (sim_var 0)) (sim_notV (se_isi (.ty _) (isO_T .bool) (sim_var 0)))))⟩)
theorem sc__law_same : FnScope ["actual", "expected", "k"] ["actual", "expected"] (defScope st__law_same) := ⟨rfl, rfl, rfl, by decide +kernel, rfl, by decide +kernel, by decide +kernel⟩
theorem g__law_same {m : Bool} (h : Hd P w K mg) : ∀ n, GFn m P w K mg base (n + 2) "_law_same" ["actual", "expected"] (spM K (f__law_same n) 2)
  | 0 => gfn_never (k := 1) h.d__law_same h.gd__law_same sc__law_same (fun kV doc pm an cdv ct us hl => match us, hl with | [_, _], _ => rfl)
  | n + 1 => by
    have ih := g__law_same (m := m) h n
    exact gfm_mk (k := n + 2) h.d__law_same h.gd__law_same sc__law_same (fun kV doc pm an cdv ct us hl => match us, hl with | [_, _], _ => rfl) rfl rfl (fun cdv A outer s H E pn cz => ⟨_, (pss_cons (z_if (zt_cmp zIsN_ok (z_v 1) pe_non) (pss_one (ps_ret (z_cmp zIsN_ok (z_v 0) pe_non))) pss_nil) (pss_cons (z_if (k_t K rfl (z_callB (k_isi K rfl) h.fr_isinstance (by decide +kernel) (pa_cons (z_v 1) (pa_cons (pe_bltn (v := .ty "bool") rfl h.fr_bool (by decide +kernel) rfl) pa_nil)))) (pss_one (ps_ret (z_and (z_callB (k_isi K rfl) h.fr_isinstance (by decide +kernel) (pa_cons (z_v 0) (pa_cons (pe_bltn (v := .ty "bool") rfl h.fr_bool (by decide +kernel) rfl) pa_nil))) (pe_one (z_cmp op_eq (z_v 0) (z_v 1)))))) pss_nil) (pss_cons (z_if (k_t K rfl (z_callB (k_isi K rfl) h.fr_isinstance (by decide +kernel) (pa_cons (z_v 1) (pa_cons (pe_bltn (v := .ty "int") rfl h.fr_int (by decide +kernel) rfl) pa_nil)))) (pss_one (ps_ret (z_and (z_call cz.e (g__law_is_number (K := K) h) (by omega) (pa_cons (z_v 0) pa_nil)) (pe_one (z_cmp op_eq (z_v 0) (z_v 1)))))) pss_nil) (pss_cons (z_if (k_t K rfl (z_callB (k_isi K rfl) h.fr_isinstance (by decide +kernel) (pa_cons (z_v 1) (pa_cons (pe_bltn (v := .ty "str") rfl h.fr_str (by decide +kernel) rfl) pa_nil)))) (pss_one (ps_ret (z_and (z_callB (k_isi K rfl) h.fr_isinstance (by decide +kernel) (pa_cons (z_v 0) (pa_cons (pe_bltn (v := .ty "str") rfl h.fr_str (by decide +kernel) rfl) pa_nil))) (pe_one (z_cmp op_eq (z_v 0) (z_v 1)))))) pss_nil) (pss_cons (z_if (k_t K rfl (z_callB (k_isi K rfl) h.fr_isinstance (by decide +kernel) (pa_cons (z_v 1) (pa_cons (pe_bltn (v := .ty "list") rfl h.fr_list (by decide +kernel) rfl) pa_nil)))) (pss_one (z_if (PW.pt (zt_or (zt_not (k_t K rfl (z_callB (k_isi K rfl) h.fr_isinstance (by decide +kernel) (pa_cons (z_v 0) (pa_cons (pe_bltn (v := .ty "list") rfl h.fr_list (by decide +kernel) rfl) pa_nil))))) (zt_or1 (zt_cmp op_ne (z_callB (k_len K rfl) h.fr_len (by decide +kernel) (pa_cons (z_v 0) pa_nil)) (z_callB (k_len K rfl) h.fr_len (by decide +kernel) (pa_cons (z_v 1) pa_nil)))))) (pss_one (ps_ret pe_bl)) pss_nil)) (pss_one (z_if (PW.pt (zt_or (zt_not (k_t K rfl (z_callB (k_isi K rfl) h.fr_isinstance (by decide +kernel) (pa_cons (z_v 1) (pa_cons (pe_bltn (v := .ty "tuple") rfl h.fr_tuple (by decide +kernel) rfl) pa_nil))))) (zt_or (zt_not (k_t K rfl (z_callB (k_isi K rfl) h.fr_isinstance (by decide +kernel) (pa_cons (z_v 0) (pa_cons (pe_bltn (v := .ty "tuple") rfl h.fr_tuple (by decide +kernel) rfl) pa_nil))))) (zt_or1 (zt_cmp op_ne (z_callB (k_len K rfl) h.fr_len (by decide +kernel) (pa_cons (z_v 0) pa_nil)) (z_callB (k_len K rfl) h.fr_len (by decide +kernel) (pa_cons (z_v 1) pa_nil))))))) (pss_one (ps_ret pe_bl)) pss_nil))) (pss_cons (z_forR cz h.fr_range (pa_cons (z_callB (k_len K rfl) h.fr_len (by decide +kernel) (pa_cons (z_v 1) pa_nil)) pa_nil) (zg_name 2 sc__law_same.nd) (pss_one (z_if (zt_not (k_t K rfl (z_call cz.e (ih) (by omega) (pa_cons (k_ix K rfl (z_v 0) (z_v 2)) (pa_cons (k_ix K rfl (z_v 1) (z_v 2)) pa_nil))))) (pss_one (ps_ret pe_bl)) pss_nil))) (pss_one (ps_ret pe_bl)))))))), (ss_seq (ss_if (sim_test (sim_op s_isN (sim_var 1) (sim_c fun _ => wn))) (ss_ret (sim_op s_isN (sim_var 0) (sim_c fun _ => wn))) ss_next) (ss_seq (ss_if (sim_t (se_isi (.ty _) (isO_T .bool) (sim_var 1))) (ss_ret (sim_andV (se_isi (.ty _) (isO_T .bool) (sim_var 0)) (sim_op s_eq (sim_var 0) (sim_var 1)))) ss_next) (ss_seq (ss_if (sim_t (se_isi (.ty _) (isO_T .int) (sim_var 1))) (ss_ret (sim_andV (se_call mFun_n (sim_cons (sim_var 0) sim_nil)) (sim_op s_eq (sim_var 0) (sim_var 1)))) ss_next) (ss_seq (ss_if (sim_t (se_isi (.ty _) (isO_T .str) (sim_var 1))) (ss_ret (sim_andV (se_isi (.ty _) (isO_T .str) (sim_var 0)) (sim_op s_eq (sim_var 0) (sim_var 1)))) ss_next) (ss_seq (ss_if (sim_t (se_isi (.ty _) (isO_T .list) (sim_var 1))) (ss_if (sim_or (sim_not (sim_t (se_isi (.ty _) (isO_T .list) (sim_var 0)))) (sim_test (sim_op s_ne (sim_app s_len (sim_cons (sim_var 0) sim_nil)) (sim_app s_len (sim_cons (sim_var 1) sim_nil))))) (ss_ret (sim_c fun _ => wb)) ss_next) (ss_if (sim_or (sim_not (sim_t (se_isi (.ty _) (isO_T .tuple) (sim_var 1)))) (sim_or (sim_not (sim_t (se_isi (.ty _) (isO_T .tuple) (sim_var 0)))) (sim_test (sim_op s_ne (sim_app s_len (sim_cons (sim_var 0) sim_nil)) (sim_app s_len (sim_cons (sim_var 1) sim_nil)))))) (ss_ret (sim_c fun _ => wb)) ss_next)) (ss_seq (ss_for (si_rng1 (sim_cons (sim_app s_len (sim_cons (sim_var 1) sim_nil)) sim_nil)) (sg_name 2 tt_ok) (ss_if (sim_not (sim_t (se_call (n__law_same _) (sim_cons (sim_op s_ix (sim_var 0) (sim_var 2)) (sim_cons (sim_op s_ix (sim_var 1) (sim_var 2)) sim_nil))))) (ss_ret (sim_c fun _ => wb)) ss_next)) (ss_ret (sim_c fun _ => wb))))))))⟩)
theorem sc__law_refused : FnScope ["number", "e"] ["number"] (defScope st__law_refused) := ⟨rfl, rfl, rfl, by decide +kernel, rfl, by decide +kernel, by decide +kernel⟩
theorem g__law_refused (h : Hd P w K mg) : GFn true P w K mg base 9 "_law_refused" ["number"] (spM K f__law_refused 1) :=
  gfm_mk (k := 8) h.d__law_refused h.gd__law_refused sc__law_refused (fun kV doc pm an cdv ct us hl => match us, hl with | [_], _ => rfl) rfl rfl (fun cdv A outer s H E pn cz => ⟨_, (pss_cons (z_tryG cz sc__law_refused.nd (fun W' pn xe cz1 => (pss_one (ps_expr (z_call cz1.e (g_all_cells (K := K) h) (by omega) (pa_cons (z_v 0) pa_nil))))) (hg_as (i := 1) cz ⟨rfl, by decide, .inl h.g_BadReach⟩ (fun a oe cls d pn hz hf cz3 => (pss_cons (z_if (PW.pt (zt_or (k_t K rfl (z_callB (k_isE K rfl hz hf) h.fr_isinstance (by decide +kernel) (pa_cons (z_v 1) (pa_cons (pe_glob (v := .ref (He.ga K "BadCell")) rfl h.g_BadCell rfl) pa_nil)))) (zt_or1 (k_t K rfl (z_callB (k_isE K rfl hz hf) h.fr_isinstance (by decide +kernel) (pa_cons (z_v 1) (pa_cons (pe_glob (v := .ref (He.ga K "BadKin")) rfl h.g_BadKin rfl) pa_nil))))))) (pss_one (ps_ret pe_bl)) pss_nil) (pss_one (ps_ret (z_call cz3.e (g__law_same (K := K) h 6) (by omega) (pa_cons (z_lst (pa_cons (k_xf K rfl hz hf (z_v 1)) (pa_cons (k_xf K rfl hz hf (z_v 1)) pa_nil))) (pa_cons (z_lst (pa_cons (z_v 0) (pa_cons pe_str pa_nil))) pa_nil))))))) (hg_bare cz ⟨rfl, by decide, .inl h.g_ForkError⟩ (fun a oe cls d pn hz hf cz2 => (pss_one (ps_ret pe_bl))) HdG.nil))) (pss_one (ps_ret pe_bl))), (ss_seq (ss_tryG (fun W' => (ss_drop (se_call mFun_n (sim_cons (sim_var 0) sim_nil)))) (HdSim.named (exf_BadReach h) tt_ok (fun x a cls d => (ss_seq (ss_if (sim_or (sim_t (se_isE (.own _) (isf_BadCell h))) (sim_t (se_isE (.own _) (isf_BadKin h)))) (ss_ret (sim_c fun _ => wb)) ss_next) (ss_ret (se_call (n__law_same _) (sim_cons (sim_lst (sim_cons (se_xf (xff_number h)) (sim_cons (se_xf (xff_reason h)) sim_nil))) (sim_cons (sim_lst (sim_cons (sim_var 0) (sim_cons (sim_c fun _ => ws) sim_nil))) sim_nil)))))) (HdSim.bare (exf_ForkError h) (fun x a cls d => (ss_ret (sim_c fun _ => wb))) HdSim.nil))) (ss_ret (sim_c fun _ => wb)))⟩)
theorem sc__law_is_kin : FnScope ["actual", "parts"] ["actual", "parts"] (defScope st__law_is_kin) := ⟨rfl, rfl, rfl, by decide +kernel, rfl, by decide +kernel, by decide +kernel⟩
theorem g__law_is_kin {m : Bool} (h : Hd P w K mg) : GFn m P w K mg base 9 "_law_is_kin" ["actual", "parts"] (spM K f__law_is_kin 2) :=
  gfm_mk (k := 8) h.d__law_is_kin h.gd__law_is_kin sc__law_is_kin (fun kV doc pm an cdv ct us hl => match us, hl with | [_, _], _ => rfl) rfl rfl (fun cdv A outer s H E pn cz => ⟨_, (pss_cons (z_if (zt_not (k_t K rfl (z_callB (k_isi K rfl) h.fr_isinstance (by decide +kernel) (pa_cons (z_v 0) (pa_cons (pe_glob (v := .ref (He.ga K "Kin")) rfl h.g_Kin rfl) pa_nil))))) (pss_one (ps_ret pe_bl)) pss_nil) (pss_one (ps_ret (z_call cz.e (g__law_same (K := K) h 6) (by omega) (pa_cons (z_lst (pa_cons (z_fld K rfl (z_v 0)) (pa_cons (z_fld K rfl (z_v 0)) (pa_cons (z_fld K rfl (z_v 0)) pa_nil)))) (pa_cons (z_lst (pa_cons (k_ix K rfl (z_v 1) pe_int) (pa_cons (k_ix K rfl (z_v 1) pe_int) (pa_cons (k_ix K rfl (z_v 1) pe_int) pa_nil)))) pa_nil)))))), (ss_seq (ss_if (sim_not (sim_t (se_isi (.own _) (iso_Kin h) (sim_var 0)))) (ss_ret (sim_c fun _ => wb)) ss_next) (ss_ret (se_call (n__law_same _) (sim_cons (sim_lst (sim_cons (se_fld h.cl_Kin h.na_Kin_up (sim_var 0)) (sim_cons (se_fld h.cl_Kin h.na_Kin_down (sim_var 0)) (sim_cons (se_fld h.cl_Kin h.na_Kin_side (sim_var 0)) sim_nil)))) (sim_cons (sim_lst (sim_cons (sim_op s_ix (sim_var 1) (sim_c fun _ => wi)) (sim_cons (sim_op s_ix (sim_var 1) (sim_c fun _ => wi)) (sim_cons (sim_op s_ix (sim_var 1) (sim_c fun _ => wi)) sim_nil)))) sim_nil)))))⟩)
theorem sc__law_are_kins : FnScope ["actual", "expected", "k"] ["actual", "expected"] (defScope st__law_are_kins) := ⟨rfl, rfl, rfl, by decide +kernel, rfl, by decide +kernel, by decide +kernel⟩
theorem g__law_are_kins {m : Bool} (h : Hd P w K mg) : GFn m P w K mg base 10 "_law_are_kins" ["actual", "expected"] (spM K f__law_are_kins 2) :=
  gfm_mk (k := 9) h.d__law_are_kins h.gd__law_are_kins sc__law_are_kins (fun kV doc pm an cdv ct us hl => match us, hl with | [_, _], _ => rfl) rfl rfl (fun cdv A outer s H E pn cz => ⟨_, (pss_cons (z_if (PW.pt (zt_or (zt_not (k_t K rfl (z_callB (k_isi K rfl) h.fr_isinstance (by decide +kernel) (pa_cons (z_v 0) (pa_cons (pe_bltn (v := .ty "list") rfl h.fr_list (by decide +kernel) rfl) pa_nil))))) (zt_or1 (zt_cmp op_ne (z_callB (k_len K rfl) h.fr_len (by decide +kernel) (pa_cons (z_v 0) pa_nil)) (z_callB (k_len K rfl) h.fr_len (by decide +kernel) (pa_cons (z_v 1) pa_nil)))))) (pss_one (ps_ret pe_bl)) pss_nil) (pss_cons (z_forR cz h.fr_range (pa_cons (z_callB (k_len K rfl) h.fr_len (by decide +kernel) (pa_cons (z_v 1) pa_nil)) pa_nil) (zg_name 2 sc__law_are_kins.nd) (pss_one (z_if (zt_not (k_t K rfl (z_call cz.e (g__law_is_kin (K := K) h) (by omega) (pa_cons (k_ix K rfl (z_v 0) (z_v 2)) (pa_cons (k_ix K rfl (z_v 1) (z_v 2)) pa_nil))))) (pss_one (ps_ret pe_bl)) pss_nil))) (pss_one (ps_ret pe_bl)))), (ss_seq (ss_if (sim_or (sim_not (sim_t (se_isi (.ty _) (isO_T .list) (sim_var 0)))) (sim_test (sim_op s_ne (sim_app s_len (sim_cons (sim_var 0) sim_nil)) (sim_app s_len (sim_cons (sim_var 1) sim_nil))))) (ss_ret (sim_c fun _ => wb)) ss_next) (ss_seq (ss_for (si_rng1 (sim_cons (sim_app s_len (sim_cons (sim_var 1) sim_nil)) sim_nil)) (sg_name 2 tt_ok) (ss_if (sim_not (sim_t (se_call mFun_n (sim_cons (sim_op s_ix (sim_var 0) (sim_var 2)) (sim_cons (sim_op s_ix (sim_var 1) (sim_var 2)) sim_nil))))) (ss_ret (sim_c fun _ => wb)) ss_next)) (ss_ret (sim_c fun _ => wb))))⟩)
theorem sc__law_kin : FnScope ["parts"] ["parts"] (defScope st__law_kin) := ⟨rfl, rfl, rfl, by decide +kernel, rfl, by decide +kernel, by decide +kernel⟩
theorem g__law_kin (h : Hd P w K mg) : GFn true P w K mg base 5 "_law_kin" ["parts"] (spM K f__law_kin 1) :=
  gfm_mk (k := 4) h.d__law_kin h.gd__law_kin sc__law_kin (fun kV doc pm an cdv ct us hl => match us, hl with | [_], _ => rfl) rfl rfl (fun cdv A outer s H E pn cz => ⟨_, (pss_one (ps_ret (z_make cz.e h.mk_Kin (g_Kin___init__ (K := K) h) (by omega) h.g_Kin (pa_cons (k_ix K rfl (z_v 0) pe_int) (pa_cons (k_ix K rfl (z_v 0) pe_int) (pa_cons (k_ix K rfl (z_v 0) pe_int) pa_nil)))))), (ss_ret (se_kin (sim_cons (sim_op s_ix (sim_var 0) (sim_c fun _ => wi)) (sim_cons (sim_op s_ix (sim_var 0) (sim_c fun _ => wi)) (sim_cons (sim_op s_ix (sim_var 0) (sim_c fun _ => wi)) sim_nil)))))⟩)
theorem sc__law_cell_text : FnScope ["cell", "reach", "text", "count"] ["cell", "reach"] (defScope st__law_cell_text) := ⟨rfl, rfl, rfl, by decide +kernel, rfl, by decide +kernel, by decide +kernel⟩
theorem g__law_cell_text (h : Hd P w K mg) : GFn true P w K mg base 1 "_law_cell_text" ["cell", "reach"] (spM K f__law_cell_text 2) :=
  gfm_mk (k := 0) h.d__law_cell_text h.gd__law_cell_text sc__law_cell_text (fun kV doc pm an cdv ct us hl => match us, hl with | [_, _], _ => rfl) rfl rfl (fun cdv A outer s H E pn cz => ⟨_, (pss_cons (z_set 2 (k_ix K rfl (z_v 0) pe_int) sc__law_cell_text.nd) (pss_cons (z_for cz (k_it K rfl (z_lst (pa_cons (k_ix K rfl (z_v 0) pe_int) (pa_cons (k_ix K rfl (z_v 0) pe_int) pa_nil)))) (zg_name 3 sc__law_cell_text.nd) (pss_cons (z_set 2 (z_bin zAdd_ok (z_bin zAdd_ok (z_v 2) pe_str) (z_callT zStrF_ok h.fr_str (by decide +kernel) (pa_cons (z_v 3) pa_nil))) sc__law_cell_text.nd) (pss_one (z_if (zt_cmp op_eq (z_v 3) (z_v 1)) (pss_one (z_set 2 (z_bin zAdd_ok (z_v 2) pe_str) sc__law_cell_text.nd)) pss_nil)))) (pss_one (ps_ret (z_v 2))))), (ss_seq (ss_asg (sim_op s_ix (sim_var 0) (sim_c fun _ => wi)) (sg_name 2 tt_ok)) (ss_seq (ss_for (si_seq (sim_lst (sim_cons (sim_op s_ix (sim_var 0) (sim_c fun _ => wi)) (sim_cons (sim_op s_ix (sim_var 0) (sim_c fun _ => wi)) sim_nil)))) (sg_name 3 tt_ok) (ss_seq (ss_asg (sim_op s_add (sim_op s_add (sim_var 2) (sim_c fun _ => ws)) (sim_app s_str (sim_cons (sim_var 3) sim_nil))) (sg_name 2 tt_ok)) (ss_if (sim_test (sim_op s_eq (sim_var 3) (sim_var 1))) (ss_asg (sim_op s_add (sim_var 2) (sim_c fun _ => ws)) (sg_name 2 tt_ok)) ss_next))) (ss_ret (sim_var 2))))⟩)
theorem sc_number_text : FnScope ["number", "reach"] ["number", "reach"] (defScope st_number_text) := ⟨rfl, rfl, rfl, by decide +kernel, rfl, by decide +kernel, by decide +kernel⟩
theorem g_number_text {m : Bool} (h : Hd P w K mg) : GFn m P w K mg base 1 "number_text" ["number", "reach"] (spM K f_number_text 2) :=
  gfm_mk (k := 0) h.d_number_text h.gd_number_text sc_number_text (fun kV doc pm an cdv ct us hl => match us, hl with | [_, _], _ => rfl) rfl rfl (fun cdv A outer s H E pn cz => ⟨_, (pss_cons (z_if (zt_cmp op_eq (z_v 0) (z_v 1)) (pss_one (ps_ret (pe_joined (PJ.cons (pe_fmt (z_v 0)) (PJ.cons pe_str PJ.nil))))) pss_nil) (pss_one (ps_ret (pe_joined1 (pe_fmt (z_v 0)))))), (ss_seq (ss_if (sim_test (sim_op s_eq (sim_var 0) (sim_var 1))) (ss_ret (se_js (SimJ.cons (se_fmt (sim_var 0)) (SimJ.cons (sim_c fun _ => ws) SimJ.nil)) _)) ss_next) (ss_ret (se_fmt (sim_var 0))))⟩)
theorem sc_cell_text : FnScope ["cell", "reach"] ["cell", "reach"] (defScope st_cell_text) := ⟨rfl, rfl, rfl, by decide +kernel, rfl, by decide +kernel, by decide +kernel⟩
theorem g_cell_text {m : Bool} (h : Hd P w K mg) : GFn m P w K mg base 2 "cell_text" ["cell", "reach"] (spM K f_cell_text 2) :=
  gfm_mk (k := 1) h.d_cell_text h.gd_cell_text sc_cell_text (fun kV doc pm an cdv ct us hl => match us, hl with | [_, _], _ => rfl) rfl rfl (fun cdv A outer s H E pn cz => ⟨_, (pss_one (ps_ret (pe_joined (PJ.cons (pe_fmt (z_fld K rfl (z_v 0))) (PJ.cons pe_str (PJ.cons (pe_fmt (z_call cz.e (g_number_text (K := K) h) (by omega) (pa_cons (z_fld K rfl (z_v 0)) (pa_cons (z_v 1) pa_nil)))) (PJ.cons pe_str (PJ.cons (pe_fmt (z_call cz.e (g_number_text (K := K) h) (by omega) (pa_cons (z_fld K rfl (z_v 0)) (pa_cons (z_v 1) pa_nil)))) PJ.nil)))))))), (ss_ret (se_js (SimJ.cons (se_fmt (se_fld h.cl_Kin h.na_Kin_side (sim_var 0))) (SimJ.cons (sim_c fun _ => ws) (SimJ.cons (se_fmt (se_call mFun_n (sim_cons (se_fld h.cl_Kin h.na_Kin_up (sim_var 0)) (sim_cons (sim_var 1) sim_nil)))) (SimJ.cons (sim_c fun _ => ws) (SimJ.cons (se_fmt (se_call mFun_n (sim_cons (se_fld h.cl_Kin h.na_Kin_down (sim_var 0)) (sim_cons (sim_var 1) sim_nil)))) SimJ.nil))))) _))⟩)
theorem sc__law_sides : FnScope ["up", "down"] ["up", "down"] (defScope st__law_sides) := ⟨rfl, rfl, rfl, by decide +kernel, rfl, by decide +kernel, by decide +kernel⟩
theorem g__law_sides {m : Bool} (h : Hd P w K mg) : GFn m P w K mg base 1 "_law_sides" ["up", "down"] (spM K f__law_sides 2) :=
  gfm_mk (k := 0) h.d__law_sides h.gd__law_sides sc__law_sides (fun kV doc pm an cdv ct us hl => match us, hl with | [_, _], _ => rfl) rfl rfl (fun cdv A outer s H E pn cz => ⟨_, (pss_cons (z_if (PW.pt (zt_or (zt_cmp op_eq (z_v 0) pe_int) (zt_or1 (zt_cmp op_eq (z_v 1) pe_int)))) (pss_one (ps_ret (z_lst (pa_cons pe_str pa_nil)))) pss_nil) (pss_one (ps_ret (z_lst (pa_cons pe_str (pa_cons pe_str pa_nil)))))), (ss_seq (ss_if (sim_or (sim_test (sim_op s_eq (sim_var 0) (sim_c fun _ => wi))) (sim_test (sim_op s_eq (sim_var 1) (sim_c fun _ => wi)))) (ss_ret (sim_lst (sim_cons (sim_c fun _ => ws) sim_nil))) ss_next) (ss_ret (sim_lst (sim_cons (sim_c fun _ => ws) (sim_cons (sim_c fun _ => ws) sim_nil)))))⟩)
theorem sc__law_cells : FnScope ["reach", "cells", "far", "up", "side"] ["reach"] (defScope st__law_cells) := ⟨rfl, rfl, rfl, by decide +kernel, rfl, by decide +kernel, by decide +kernel⟩
theorem g__law_cells (h : Hd P w K mg) : GFn true P w K mg base 2 "_law_cells" ["reach"] (spM K f__law_cells 1) :=
  gfm_mk (k := 1) h.d__law_cells h.gd__law_cells sc__law_cells (fun kV doc pm an cdv ct us hl => match us, hl with | [_], _ => rfl) rfl rfl (fun cdv A outer s H E pn cz => ⟨_, (pss_cons (z_set 1 (z_lst pa_nil) sc__law_cells.nd) (pss_cons (z_for cz (z_rng2 h.fr_range (pa_cons pe_int (pa_cons (z_bin zAdd_ok (z_bin zMul_ok pe_int (z_v 0)) pe_int) pa_nil))) (zg_name 2 sc__law_cells.nd) (pss_one (z_forR cz h.fr_range (pa_cons (z_bin zAdd_ok (z_v 0) pe_int) pa_nil) (zg_name 3 sc__law_cells.nd) (pss_one (z_if (zt_chain zLe_ok zLe_ok pe_int (z_bin zSub_ok (z_v 2) (z_v 3)) (z_v 0)) (pss_one (z_for cz (k_it K rfl (z_call cz.e (g__law_sides (K := K) h) (by omega) (pa_cons (z_v 3) (pa_cons (z_bin zSub_ok (z_v 2) (z_v 3)) pa_nil)))) (zg_name 4 sc__law_cells.nd) (pss_one (ps_expr (k_meth K rfl PySem.F.plainAttrs_list PySem.F.slot_list_append PySem.F.type_list_append zAppend_ok (z_v 1) (pa_cons (z_tup (pa_cons (z_v 3) (pa_cons (z_bin zSub_ok (z_v 2) (z_v 3)) (pa_cons (z_v 4) pa_nil)))) pa_nil)))))) pss_nil))))) (pss_one (ps_ret (z_v 1))))), (ss_seq (ss_asg (sim_lst sim_nil) (sg_name 1 tt_ok)) (ss_seq (ss_for (si_rng2 (sim_cons (sim_c fun _ => wi) (sim_cons (sim_op s_add (sim_op s_mul (sim_c fun _ => wi) (sim_var 0)) (sim_c fun _ => wi)) sim_nil))) (sg_name 2 tt_ok) (ss_for (si_rng1 (sim_cons (sim_op s_add (sim_var 0) (sim_c fun _ => wi)) sim_nil)) (sg_name 3 tt_ok) (ss_if (sim_test (sim_chain s_le s_le (sim_c fun _ => wi) (sim_op s_sub (sim_var 2) (sim_var 3)) (sim_var 0))) (ss_for (si_seq (se_call mFun_n (sim_cons (sim_var 3) (sim_cons (sim_op s_sub (sim_var 2) (sim_var 3)) sim_nil)))) (sg_name 4 tt_ok) (ss_drop (se_meth s_append (sim_var 1) (sim_cons (sim_tup (sim_cons (sim_var 3) (sim_cons (sim_op s_sub (sim_var 2) (sim_var 3)) (sim_cons (sim_var 4) sim_nil)))) sim_nil)))) ss_next))) (ss_ret (sim_var 1))))⟩)
theorem sc__law_listed : FnScope ["reach", "due", "cells", "k"] ["reach"] (defScope st__law_listed) := ⟨rfl, rfl, rfl, by decide +kernel, rfl, by decide +kernel, by decide +kernel⟩
theorem g__law_listed (h : Hd P w K mg) : GFn true P w K mg base 11 "_law_listed" ["reach"] (spM K f__law_listed 1) :=
  gfm_mk (k := 10) h.d__law_listed h.gd__law_listed sc__law_listed (fun kV doc pm an cdv ct us hl => match us, hl with | [_], _ => rfl) rfl rfl (fun cdv A outer s H E pn cz => ⟨_, (pss_cons (z_set 1 (z_call cz.e (g__law_cells (K := K) h) (by omega) (pa_cons (z_v 0) pa_nil)) sc__law_listed.nd) (pss_cons (z_set 2 (z_call cz.e (g_all_cells (K := K) h) (by omega) (pa_cons (z_v 0) pa_nil)) sc__law_listed.nd) (pss_cons (z_if (PW.pt (zt_or (zt_not (k_t K rfl (z_call cz.e (g__law_are_kins (K := K) h) (by omega) (pa_cons (z_v 2) (pa_cons (z_v 1) pa_nil))))) (zt_or1 (zt_cmp op_ne (z_callB (k_len K rfl) h.fr_len (by decide +kernel) (pa_cons (z_v 1) pa_nil)) (z_bin zAdd_ok (z_bin zMul_ok pe_int (z_v 0)) (z_bin zMul_ok (z_bin zMul_ok pe_int (z_v 0)) (z_v 0))))))) (pss_one (ps_ret pe_bl)) pss_nil) (pss_cons (z_forR cz h.fr_range (pa_cons (z_callB (k_len K rfl) h.fr_len (by decide +kernel) (pa_cons (z_v 1) pa_nil)) pa_nil) (zg_name 3 sc__law_listed.nd) (pss_one (z_if (zt_not (k_t K rfl (z_call cz.e (g__law_same (K := K) h 6) (by omega) (pa_cons (z_call cz.e (g_cell_text (K := K) h) (by omega) (pa_cons (k_ix K rfl (z_v 2) (z_v 3)) (pa_cons (z_v 0) pa_nil))) (pa_cons (z_call cz.e (g__law_cell_text (K := K) h) (by omega) (pa_cons (k_ix K rfl (z_v 1) (z_v 3)) (pa_cons (z_v 0) pa_nil))) pa_nil))))) (pss_one (ps_ret pe_bl)) pss_nil))) (pss_cons (ps_expr (k_meth K rfl PySem.F.plainAttrs_list PySem.F.slot_list_pop PySem.F.type_list_pop mt_popAt (z_v 2) (pa_cons pe_int pa_nil))) (pss_cons (ps_expr (k_meth K rfl PySem.F.plainAttrs_list PySem.F.slot_list_append PySem.F.type_list_append zAppend_ok (z_v 2) (pa_cons (z_call cz.e (g__law_kin (K := K) h) (by omega) (pa_cons (z_tup (pa_cons pe_int (pa_cons pe_int (pa_cons pe_str pa_nil)))) pa_nil)) pa_nil))) (pss_one (ps_ret (z_call cz.e (g__law_are_kins (K := K) h) (by omega) (pa_cons (z_call cz.e (g_all_cells (K := K) h) (by omega) (pa_cons (z_v 0) pa_nil)) (pa_cons (z_v 1) pa_nil))))))))))), (ss_seq (ss_asg (se_call mFun_n (sim_cons (sim_var 0) sim_nil)) (sg_name 1 tt_ok)) (ss_seq (ss_asg (se_call mFun_n (sim_cons (sim_var 0) sim_nil)) (sg_name 2 tt_ok)) (ss_seq (ss_if (sim_or (sim_not (sim_t (se_call mFun_n (sim_cons (sim_var 2) (sim_cons (sim_var 1) sim_nil))))) (sim_test (sim_op s_ne (sim_app s_len (sim_cons (sim_var 1) sim_nil)) (sim_op s_add (sim_op s_mul (sim_c fun _ => wi) (sim_var 0)) (sim_op s_mul (sim_op s_mul (sim_c fun _ => wi) (sim_var 0)) (sim_var 0)))))) (ss_ret (sim_c fun _ => wb)) ss_next) (ss_seq (ss_for (si_rng1 (sim_cons (sim_app s_len (sim_cons (sim_var 1) sim_nil)) sim_nil)) (sg_name 3 tt_ok) (ss_if (sim_not (sim_t (se_call (n__law_same _) (sim_cons (se_call mFun_n (sim_cons (sim_op s_ix (sim_var 2) (sim_var 3)) (sim_cons (sim_var 0) sim_nil))) (sim_cons (se_call mFun_n (sim_cons (sim_op s_ix (sim_var 1) (sim_var 3)) (sim_cons (sim_var 0) sim_nil))) sim_nil))))) (ss_ret (sim_c fun _ => wb)) ss_next)) (ss_seq (ss_drop (se_meth s_popAt (sim_var 2) (sim_cons (sim_c fun _ => wi) sim_nil))) (ss_seq (ss_drop (se_meth s_append (sim_var 2) (sim_cons (se_call mFun_n (sim_cons (sim_tup (sim_cons (sim_c fun _ => wi) (sim_cons (sim_c fun _ => wi) (sim_cons (sim_c fun _ => ws) sim_nil)))) sim_nil)) sim_nil))) (ss_ret (se_call mFun_n (sim_cons (se_call mFun_n (sim_cons (sim_var 0) sim_nil)) (sim_cons (sim_var 1) sim_nil))))))))))⟩)
theorem sc__law_draw : FnScope ["state", "many", "value", "mixed"] ["state", "many"] (defScope st__law_draw) := ⟨rfl, rfl, rfl, by decide +kernel, rfl, by decide +kernel, by decide +kernel⟩
theorem g__law_draw {m : Bool} (h : Hd P w K mg) : GFn m P w K mg base 1 "_law_draw" ["state", "many"] (spM K f__law_draw 2) :=
  gfm_mk (k := 0) h.d__law_draw h.gd__law_draw sc__law_draw (fun kV doc pm an cdv ct us hl => match us, hl with | [_, _], _ => rfl) rfl rfl (fun cdv A outer s H E pn cz => ⟨_, (pss_cons (z_if (zt_cmp op_eq (k_ix K rfl (z_v 0) pe_int) pe_int) (pss_cons (z_if (zt_cmp zGe_ok (k_ix K rfl (z_v 0) pe_int) (z_callB (k_len K rfl) h.fr_len (by decide +kernel) (pa_cons (k_ix K rfl (z_v 0) pe_int) pa_nil))) (pss_one (ps_ret pe_int)) pss_nil) (pss_cons (z_setIx (z_v 0) pe_int (k_ix K rfl (k_ix K rfl (z_v 0) pe_int) (k_ix K rfl (z_v 0) pe_int)) zSetL_ok) (pss_cons (z_setIx (z_v 0) pe_int (z_bin zAdd_ok (k_ix K rfl (z_v 0) pe_int) pe_int) zSetL_ok) (pss_cons (z_setIx (z_v 0) pe_int pe_int zSetL_ok) (pss_cons (z_setIx (z_v 0) pe_int pe_int zSetL_ok) (pss_one (z_if (zt_cmp zGe_ok (k_ix K rfl (z_v 0) pe_int) (z_bin zPow_ok pe_int pe_int)) (pss_cons (z_setIx (z_v 0) pe_int pe_int zSetL_ok) (pss_one (z_setIx (z_v 0) pe_int pe_int zSetL_ok))) pss_nil))))))) pss_nil) (pss_cons (z_setIx (z_v 0) pe_int (z_bin zSub_ok (k_ix K rfl (z_v 0) pe_int) pe_int) zSetL_ok) (pss_cons (z_if (zt_cmp op_eq (k_ix K rfl (z_v 0) pe_int) pe_int) (pss_cons (z_set 2 (z_bin zMod_ok (z_callT zIntF_ok h.fr_int (by decide +kernel) (pa_cons (k_ix K rfl (z_v 0) pe_int) pa_nil)) (z_v 1)) sc__law_draw.nd) (pss_cons (z_setIx (z_v 0) pe_int (z_bin zFdv_ok (z_callT zIntF_ok h.fr_int (by decide +kernel) (pa_cons (k_ix K rfl (z_v 0) pe_int) pa_nil)) (z_v 1)) zSetL_ok) (pss_cons (z_if (zt_cmp op_eq (k_ix K rfl (z_v 0) pe_int) pe_int) (pss_one (z_setIx (z_v 0) pe_int pe_int zSetL_ok)) pss_nil) (pss_one (ps_ret (z_v 2)))))) pss_nil) (pss_cons (z_set 3 (z_bin zMod_ok (z_callT zIntF_ok h.fr_int (by decide +kernel) (pa_cons (z_bin zAdd_ok (z_bin zAdd_ok (z_bin zMul_ok (k_ix K rfl (z_v 0) pe_int) pe_int) (z_bin zMul_ok (k_ix K rfl (z_v 0) pe_int) pe_int)) pe_int) pa_nil)) pe_int) sc__law_draw.nd) (pss_cons (z_set 3 (z_bin zMod_ok (z_callT zIntF_ok h.fr_int (by decide +kernel) (pa_cons (z_bin zAdd_ok (z_bin zAdd_ok (z_bin zMul_ok (z_v 3) pe_int) (z_bin zFdv_ok (z_v 3) pe_int)) pe_int) pa_nil)) pe_int) sc__law_draw.nd) (pss_one (ps_ret (z_bin zMod_ok (z_callT zIntF_ok h.fr_int (by decide +kernel) (pa_cons (z_v 3) pa_nil)) (z_v 1))))))))), (ss_seq (ss_if (sim_test (sim_op s_eq (sim_op s_ix (sim_var 0) (sim_c fun _ => wi)) (sim_c fun _ => wi))) (ss_seq (ss_if (sim_test (sim_op s_ge (sim_op s_ix (sim_var 0) (sim_c fun _ => wi)) (sim_app s_len (sim_cons (sim_op s_ix (sim_var 0) (sim_c fun _ => wi)) sim_nil)))) (ss_ret (sim_c fun _ => wi)) ss_next) (ss_seq (ss_asg (sim_op s_ix (sim_op s_ix (sim_var 0) (sim_c fun _ => wi)) (sim_op s_ix (sim_var 0) (sim_c fun _ => wi))) (sg_sub s_setL (sim_var 0) (sim_c fun _ => wi))) (ss_seq (ss_asg (sim_op s_add (sim_op s_ix (sim_var 0) (sim_c fun _ => wi)) (sim_c fun _ => wi)) (sg_sub s_setL (sim_var 0) (sim_c fun _ => wi))) (ss_seq (ss_asg (sim_c fun _ => wi) (sg_sub s_setL (sim_var 0) (sim_c fun _ => wi))) (ss_seq (ss_asg (sim_c fun _ => wi) (sg_sub s_setL (sim_var 0) (sim_c fun _ => wi))) (ss_if (sim_test (sim_op s_ge (sim_op s_ix (sim_var 0) (sim_c fun _ => wi)) (sim_op s_pow (sim_c fun _ => wi) (sim_c fun _ => wi)))) (ss_seq (ss_asg (sim_c fun _ => wi) (sg_sub s_setL (sim_var 0) (sim_c fun _ => wi))) (ss_asg (sim_c fun _ => wi) (sg_sub s_setL (sim_var 0) (sim_c fun _ => wi)))) ss_next)))))) ss_next) (ss_seq (ss_asg (sim_op s_sub (sim_op s_ix (sim_var 0) (sim_c fun _ => wi)) (sim_c fun _ => wi)) (sg_sub s_setL (sim_var 0) (sim_c fun _ => wi))) (ss_seq (ss_if (sim_test (sim_op s_eq (sim_op s_ix (sim_var 0) (sim_c fun _ => wi)) (sim_c fun _ => wi))) (ss_seq (ss_asg (sim_op s_mod (sim_app s_int (sim_cons (sim_op s_ix (sim_var 0) (sim_c fun _ => wi)) sim_nil)) (sim_var 1)) (sg_name 2 tt_ok)) (ss_seq (ss_asg (sim_op s_fdv (sim_app s_int (sim_cons (sim_op s_ix (sim_var 0) (sim_c fun _ => wi)) sim_nil)) (sim_var 1)) (sg_sub s_setL (sim_var 0) (sim_c fun _ => wi))) (ss_seq (ss_if (sim_test (sim_op s_eq (sim_op s_ix (sim_var 0) (sim_c fun _ => wi)) (sim_c fun _ => wi))) (ss_asg (sim_c fun _ => wi) (sg_sub s_setL (sim_var 0) (sim_c fun _ => wi))) ss_next) (ss_ret (sim_var 2))))) ss_next) (ss_seq (ss_asg (sim_op s_mod (sim_app s_int (sim_cons (sim_op s_add (sim_op s_add (sim_op s_mul (sim_op s_ix (sim_var 0) (sim_c fun _ => wi)) (sim_c fun _ => wi)) (sim_op s_mul (sim_op s_ix (sim_var 0) (sim_c fun _ => wi)) (sim_c fun _ => wi))) (sim_c fun _ => wi)) sim_nil)) (sim_c fun _ => wi)) (sg_name 3 tt_ok)) (ss_seq (ss_asg (sim_op s_mod (sim_app s_int (sim_cons (sim_op s_add (sim_op s_add (sim_op s_mul (sim_var 3) (sim_c fun _ => wi)) (sim_op s_fdv (sim_var 3) (sim_c fun _ => wi))) (sim_c fun _ => wi)) sim_nil)) (sim_c fun _ => wi)) (sg_name 3 tt_ok)) (ss_ret (sim_op s_mod (sim_app s_int (sim_cons (sim_var 3) sim_nil)) (sim_var 1))))))))⟩)
theorem sc__law_start : FnScope ["script"] ["script"] (defScope st__law_start) := ⟨rfl, rfl, rfl, by decide +kernel, rfl, by decide +kernel, by decide +kernel⟩
theorem g__law_start {m : Bool} (h : Hd P w K mg) : GFn m P w K mg base 1 "_law_start" ["script"] (spM K f__law_start 1) :=
  gfm_mk (k := 0) h.d__law_start h.gd__law_start sc__law_start (fun kV doc pm an cdv ct us hl => match us, hl with | [_], _ => rfl) rfl rfl (fun cdv A outer s H E pn cz => ⟨_, (pss_one (ps_ret (z_lst (pa_cons (z_callT (k_list K rfl) h.fr_list (by decide +kernel) (pa_cons (z_v 0) pa_nil)) (pa_cons pe_int (pa_cons pe_int (pa_cons pe_int (pa_cons pe_int pa_nil)))))))), (ss_ret (sim_lst (sim_cons (sim_app s_list (sim_cons (sim_var 0) sim_nil)) (sim_cons (sim_c fun _ => wi) (sim_cons (sim_c fun _ => wi) (sim_cons (sim_c fun _ => wi) (sim_cons (sim_c fun _ => wi) sim_nil)))))))⟩)
theorem sc_law : FnScope ["script", "state", "reach", "cells", "cell", "number", "other"] ["script"] (defScope st_law) := ⟨rfl, rfl, rfl, by decide +kernel, rfl, by decide +kernel, by decide +kernel⟩
theorem g_law (h : Hd P w K mg) {f : Addr} {fd : FuncData} (F : FunD K "law" "law" (defArgs st_law) (defBody st_law) (defScope st_law) [] [] f fd) : Fn true P w K mg base 12 f fd ["script"] (spM K f_law 1) :=
  fnm_mk (k := 11) F sc_law rfl rfl (fun cdv A outer s H E pn cz => ⟨_, (pss_cons (z_set 1 (z_call cz.e (g__law_start (K := K) h) (by omega) (pa_cons (z_v 0) pa_nil)) sc_law.nd) (pss_cons (z_set 2 (z_bin zAdd_ok pe_int (z_call cz.e (g__law_draw (K := K) h) (by omega) (pa_cons (z_v 1) (pa_cons pe_int pa_nil)))) sc_law.nd) (pss_cons (z_set 3 (z_call cz.e (g__law_cells (K := K) h) (by omega) (pa_cons (z_v 2) pa_nil)) sc_law.nd) (pss_cons (z_set 4 (k_ix K rfl (z_v 3) (z_call cz.e (g__law_draw (K := K) h) (by omega) (pa_cons (z_v 1) (pa_cons (z_callB (k_len K rfl) h.fr_len (by decide +kernel) (pa_cons (z_v 3) pa_nil)) pa_nil)))) sc_law.nd) (pss_cons (z_set 5 (z_bin zSub_ok (z_call cz.e (g__law_draw (K := K) h) (by omega) (pa_cons (z_v 1) (pa_cons pe_int pa_nil))) pe_int) sc_law.nd) (pss_cons (z_if (zt_cmp op_eq (z_call cz.e (g__law_draw (K := K) h) (by omega) (pa_cons (z_v 1) (pa_cons pe_int pa_nil))) pe_int) (pss_one (z_set 5 (z_call cz.e (g__law_draw (K := K) h) (by omega) (pa_cons (z_v 1) (pa_cons (z_bin zPow_ok pe_int pe_int) pa_nil))) sc_law.nd)) pss_nil) (pss_cons (z_if (zt_not (k_t K rfl (z_call cz.e (g__law_same (K := K) h 6) (by omega) (pa_cons (z_call cz.e (g_cell_text (K := K) h) (by omega) (pa_cons (z_call cz.e (g__law_kin (K := K) h) (by omega) (pa_cons (z_v 4) pa_nil)) (pa_cons (z_v 2) pa_nil))) (pa_cons (z_call cz.e (g__law_cell_text (K := K) h) (by omega) (pa_cons (z_v 4) (pa_cons (z_v 2) pa_nil))) pa_nil))))) (pss_one (ps_ret pe_bl)) pss_nil) (pss_cons (z_for cz (k_it K rfl (z_lst (pa_cons (z_v 2) (pa_cons pe_int (pa_cons pe_int (pa_cons pe_int (pa_cons pe_int pa_nil))))))) (zg_name 6 sc_law.nd) (pss_one (z_if (zt_not (k_t K rfl (z_call cz.e (g__law_listed (K := K) h) (by omega) (pa_cons (z_v 6) pa_nil)))) (pss_one (ps_ret pe_bl)) pss_nil))) (pss_cons (z_for cz (k_it K rfl (z_lst (pa_cons (z_v 5) (pa_cons (z_bin zSub_ok pe_int (z_v 5)) (pa_cons pe_int (pa_cons pe_int pa_nil)))))) (zg_name 6 sc_law.nd) (pss_one (z_if (PW.pt (zt_and (zt_not (zt_chain zLe_ok zLe_ok pe_int (z_v 6) pe_int)) (zt_and1 (zt_not (k_t K rfl (z_call cz.e (g__law_refused (K := K) h) (by omega) (pa_cons (z_v 6) pa_nil))))))) (pss_one (ps_ret pe_bl)) pss_nil))) (pss_one (ps_ret (z_and (z_call cz.e (g__law_base (K := K) h) (by omega) (pa_cons (z_bin zAdd_ok pe_int (z_v 2)) pa_nil)) (pe_one (z_call cz.e (g__law_base (K := K) h) (by omega) (pa_cons (z_bin zSub_ok pe_int (z_v 2)) pa_nil))))))))))))))), (ss_seq (ss_asg (se_call mFun_n (sim_cons (sim_var 0) sim_nil)) (sg_name 1 tt_ok)) (ss_seq (ss_asg (sim_op s_add (sim_c fun _ => wi) (se_call mFun_n (sim_cons (sim_var 1) (sim_cons (sim_c fun _ => wi) sim_nil)))) (sg_name 2 tt_ok)) (ss_seq (ss_asg (se_call mFun_n (sim_cons (sim_var 2) sim_nil)) (sg_name 3 tt_ok)) (ss_seq (ss_asg (sim_op s_ix (sim_var 3) (se_call mFun_n (sim_cons (sim_var 1) (sim_cons (sim_app s_len (sim_cons (sim_var 3) sim_nil)) sim_nil)))) (sg_name 4 tt_ok)) (ss_seq (ss_asg (sim_op s_sub (se_call mFun_n (sim_cons (sim_var 1) (sim_cons (sim_c fun _ => wi) sim_nil))) (sim_c fun _ => wi)) (sg_name 5 tt_ok)) (ss_seq (ss_if (sim_test (sim_op s_eq (se_call mFun_n (sim_cons (sim_var 1) (sim_cons (sim_c fun _ => wi) sim_nil))) (sim_c fun _ => wi))) (ss_asg (se_call mFun_n (sim_cons (sim_var 1) (sim_cons (sim_op s_pow (sim_c fun _ => wi) (sim_c fun _ => wi)) sim_nil))) (sg_name 5 tt_ok)) ss_next) (ss_seq (ss_if (sim_not (sim_t (se_call (n__law_same _) (sim_cons (se_call mFun_n (sim_cons (se_call mFun_n (sim_cons (sim_var 4) sim_nil)) (sim_cons (sim_var 2) sim_nil))) (sim_cons (se_call mFun_n (sim_cons (sim_var 4) (sim_cons (sim_var 2) sim_nil))) sim_nil))))) (ss_ret (sim_c fun _ => wb)) ss_next) (ss_seq (ss_for (si_seq (sim_lst (sim_cons (sim_var 2) (sim_cons (sim_c fun _ => wi) (sim_cons (sim_c fun _ => wi) (sim_cons (sim_c fun _ => wi) (sim_cons (sim_c fun _ => wi) sim_nil))))))) (sg_name 6 tt_ok) (ss_if (sim_not (sim_t (se_call mFun_n (sim_cons (sim_var 6) sim_nil)))) (ss_ret (sim_c fun _ => wb)) ss_next)) (ss_seq (ss_for (si_seq (sim_lst (sim_cons (sim_var 5) (sim_cons (sim_op s_sub (sim_c fun _ => wi) (sim_var 5)) (sim_cons (sim_c fun _ => wi) (sim_cons (sim_c fun _ => wi) sim_nil)))))) (sg_name 6 tt_ok) (ss_if (sim_and (sim_not (sim_test (sim_chain s_le s_le (sim_c fun _ => wi) (sim_var 6) (sim_c fun _ => wi)))) (sim_not (sim_t (se_call mFun_n (sim_cons (sim_var 6) sim_nil))))) (ss_ret (sim_c fun _ => wb)) ss_next)) (ss_ret (sim_andV (se_call mFun_n (sim_cons (sim_op s_add (sim_c fun _ => wi) (sim_var 2)) sim_nil)) (se_call mFun_n (sim_cons (sim_op s_sub (sim_c fun _ => wi) (sim_var 2)) sim_nil)))))))))))))⟩)
end
def fa : List He.Fa := [.free "ValueError", .free "bool", .free "int", .free "isinstance", .free "len", .free "list", .free "range", .free "str", .free "super", .free "tuple", .int "LEAST_REACH" 1, .int "MOST_REACH" 4, .glo "SIDES", .glo "ForkError", .glo "BadKin", .glo "BadReach", .glo "BadCell", .glo "BadText", .glo "Kin", .cls "Kin", .mkr "Kin", .noat "Kin" "down", .noat "Kin" "far", .noat "Kin" "rank", .noat "Kin" "side", .noat "Kin" "up", .glo "fits_side", .glo "demand_reach", .glo "all_cells", .glo "_law_base", .glo "_law_is_number", .glo "_law_same", .glo "_law_refused", .glo "_law_is_kin", .glo "_law_are_kins", .glo "_law_kin", .glo "_law_cell_text", .glo "number_text", .glo "cell_text", .glo "_law_sides", .glo "_law_cells", .glo "_law_listed", .glo "_law_draw", .glo "_law_start", .glo "law"]
def fn : List He.DefD := [d_fits_side, d_Kin___init__, d_demand_reach, d_all_cells, d__law_base, d__law_is_number, d__law_same, d__law_refused, d__law_is_kin, d__law_are_kins, d__law_kin, d__law_cell_text, d_number_text, d_cell_text, d__law_sides, d__law_cells, d__law_listed, d__law_draw, d__law_start, d_law]
def su : List SupD := [u_ForkError, u_BadKin, u_BadReach]
def ts : List He.Tab := []
def gd : List GetD := []
def ex : List (PySem.W.Frag → Bool) := [fun K => ktB K "SIDES" [.str "line", .str "elder", .str "younger"], fun K => ownB K (He.ga K "Kin"), fun K => He.conB K "Kin" "MOST" (.int 999), fun K => kidB K "BadKin" "ForkError" ["reason", "up", "down", "side"], fun K => kidB K "BadReach" "ForkError" ["reason", "number"], fun K => decide (PySem.W.exmOne K (.ref (He.ga K "BadKin")) (.ref (He.ga K "BadReach")) = some false), fun K => decide (PySem.W.exmOne K (.ref (He.ga K "BadKin")) (.ref (He.ga K "ForkError")) = some true), fun K => decide (PySem.W.kitOne K (.ref (He.ga K "BadKin")) (.ref (He.ga K "BadCell")) = some false), fun K => decide (PySem.W.kitOne K (.ref (He.ga K "BadKin")) (.ref (He.ga K "BadKin")) = some true), fun K => decide (PySem.W.kitOne K (.ref (He.ga K "BadKin")) (.ref (He.ga K "BadReach")) = some false), fun K => decide (PySem.W.kitOne K (.ref (He.ga K "BadKin")) (.type "ValueError") = some true), fun K => decide (PySem.W.exmOne K (.ref (He.ga K "BadReach")) (.ref (He.ga K "BadReach")) = some true), fun K => decide (PySem.W.exmOne K (.ref (He.ga K "BadReach")) (.ref (He.ga K "ForkError")) = some true), fun K => decide (PySem.W.kitOne K (.ref (He.ga K "BadReach")) (.ref (He.ga K "BadCell")) = some false), fun K => decide (PySem.W.kitOne K (.ref (He.ga K "BadReach")) (.ref (He.ga K "BadKin")) = some false), fun K => decide (PySem.W.kitOne K (.ref (He.ga K "BadReach")) (.ref (He.ga K "BadReach")) = some true), fun K => decide (PySem.W.kitOne K (.ref (He.ga K "BadReach")) (.type "ValueError") = some true)]
theorem hd_of {w : World} {K : PySem.W.Frag} {h : Heap} {mg : Str → Option Value} (X : K.In h) (G : h.Ns mainGlobals mg) (c : SaysZ PySem.Challenge.pw_forkwaits_k14_cells_of_a_reach fa fn ts su gd ex w K) : Hd PySem.Challenge.pw_forkwaits_k14_cells_of_a_reach w K mg :=
  ⟨by kernel_rfl, He.free_ok X G (c.d.fact 0 (f := .free "ValueError") rfl), He.free_ok X G (c.d.fact 1 (f := .free "bool") rfl), He.free_ok X G (c.d.fact 2 (f := .free "int") rfl), He.free_ok X G (c.d.fact 3 (f := .free "isinstance") rfl), He.free_ok X G (c.d.fact 4 (f := .free "len") rfl), He.free_ok X G (c.d.fact 5 (f := .free "list") rfl), He.free_ok X G (c.d.fact 6 (f := .free "range") rfl), He.free_ok X G (c.d.fact 7 (f := .free "str") rfl), He.free_ok X G (c.d.fact 8 (f := .free "super") rfl), He.free_ok X G (c.d.fact 9 (f := .free "tuple") rfl), He.int_ok X G (c.d.fact 10 (f := .int "LEAST_REACH" 1) rfl), He.int_ok X G (c.d.fact 11 (f := .int "MOST_REACH" 4) rfl), He.glo_ok X G (c.d.fact 12 (f := .glo "SIDES") rfl), ktB_ok (vs := [.str "line", .str "elder", .str "younger"]) (c.e 0 (b := fun K => ktB K "SIDES" [.str "line", .str "elder", .str "younger"]) rfl), He.glo_ok X G (c.d.fact 13 (f := .glo "ForkError") rfl), He.glo_ok X G (c.d.fact 14 (f := .glo "BadKin") rfl), He.glo_ok X G (c.d.fact 15 (f := .glo "BadReach") rfl), He.glo_ok X G (c.d.fact 16 (f := .glo "BadCell") rfl), He.glo_ok X G (c.d.fact 17 (f := .glo "BadText") rfl), He.glo_ok X G (c.d.fact 18 (f := .glo "Kin") rfl), He.cls_ok (c.d.fact 19 (f := .cls "Kin") rfl), ownB_ok (c.e 1 (b := fun K => ownB K (He.ga K "Kin")) rfl), He.mkr_ok (c.d.fact 20 (f := .mkr "Kin") rfl), He.noat_ok (c.d.fact 21 (f := .noat "Kin" "down") rfl), He.noat_ok (c.d.fact 22 (f := .noat "Kin" "far") rfl), He.noat_ok (c.d.fact 23 (f := .noat "Kin" "rank") rfl), He.noat_ok (c.d.fact 24 (f := .noat "Kin" "side") rfl), He.noat_ok (c.d.fact 25 (f := .noat "Kin" "up") rfl), He.conB_ok (c.e 2 (b := fun K => He.conB K "Kin" "MOST" (.int 999)) rfl), He.glo_ok X G (c.d.fact 26 (f := .glo "fits_side") rfl), c.d.def_ 0 (d := d_fits_side) rfl, c.d.def_ 1 (d := d_Kin___init__) rfl, He.glo_ok X G (c.d.fact 27 (f := .glo "demand_reach") rfl), c.d.def_ 2 (d := d_demand_reach) rfl, He.glo_ok X G (c.d.fact 28 (f := .glo "all_cells") rfl), c.d.def_ 3 (d := d_all_cells) rfl, He.glo_ok X G (c.d.fact 29 (f := .glo "_law_base") rfl), c.d.def_ 4 (d := d__law_base) rfl, He.glo_ok X G (c.d.fact 30 (f := .glo "_law_is_number") rfl), c.d.def_ 5 (d := d__law_is_number) rfl, He.glo_ok X G (c.d.fact 31 (f := .glo "_law_same") rfl), c.d.def_ 6 (d := d__law_same) rfl, He.glo_ok X G (c.d.fact 32 (f := .glo "_law_refused") rfl), c.d.def_ 7 (d := d__law_refused) rfl, He.glo_ok X G (c.d.fact 33 (f := .glo "_law_is_kin") rfl), c.d.def_ 8 (d := d__law_is_kin) rfl, He.glo_ok X G (c.d.fact 34 (f := .glo "_law_are_kins") rfl), c.d.def_ 9 (d := d__law_are_kins) rfl, He.glo_ok X G (c.d.fact 35 (f := .glo "_law_kin") rfl), c.d.def_ 10 (d := d__law_kin) rfl, He.glo_ok X G (c.d.fact 36 (f := .glo "_law_cell_text") rfl), c.d.def_ 11 (d := d__law_cell_text) rfl, He.glo_ok X G (c.d.fact 37 (f := .glo "number_text") rfl), c.d.def_ 12 (d := d_number_text) rfl, He.glo_ok X G (c.d.fact 38 (f := .glo "cell_text") rfl), c.d.def_ 13 (d := d_cell_text) rfl, He.glo_ok X G (c.d.fact 39 (f := .glo "_law_sides") rfl), c.d.def_ 14 (d := d__law_sides) rfl, He.glo_ok X G (c.d.fact 40 (f := .glo "_law_cells") rfl), c.d.def_ 15 (d := d__law_cells) rfl, He.glo_ok X G (c.d.fact 41 (f := .glo "_law_listed") rfl), c.d.def_ 16 (d := d__law_listed) rfl, He.glo_ok X G (c.d.fact 42 (f := .glo "_law_draw") rfl), c.d.def_ 17 (d := d__law_draw) rfl, He.glo_ok X G (c.d.fact 43 (f := .glo "_law_start") rfl), c.d.def_ 18 (d := d__law_start) rfl, He.glo_ok X G (c.d.fact 44 (f := .glo "law") rfl), c.d.def_ 19 (d := d_law) rfl, c.s 0 (d := u_ForkError) rfl, c.s 1 (d := u_BadKin) rfl, c.s 2 (d := u_BadReach) rfl, kidB_ok (c.e 3 (b := fun K => kidB K "BadKin" "ForkError" ["reason", "up", "down", "side"]) rfl), kidB_ok (c.e 4 (b := fun K => kidB K "BadReach" "ForkError" ["reason", "number"]) rfl), of_decide_eq_true (c.e 5 (b := fun K => decide (PySem.W.exmOne K (.ref (He.ga K "BadKin")) (.ref (He.ga K "BadReach")) = some false)) rfl), of_decide_eq_true (c.e 6 (b := fun K => decide (PySem.W.exmOne K (.ref (He.ga K "BadKin")) (.ref (He.ga K "ForkError")) = some true)) rfl), of_decide_eq_true (c.e 7 (b := fun K => decide (PySem.W.kitOne K (.ref (He.ga K "BadKin")) (.ref (He.ga K "BadCell")) = some false)) rfl), of_decide_eq_true (c.e 8 (b := fun K => decide (PySem.W.kitOne K (.ref (He.ga K "BadKin")) (.ref (He.ga K "BadKin")) = some true)) rfl), of_decide_eq_true (c.e 9 (b := fun K => decide (PySem.W.kitOne K (.ref (He.ga K "BadKin")) (.ref (He.ga K "BadReach")) = some false)) rfl), of_decide_eq_true (c.e 10 (b := fun K => decide (PySem.W.kitOne K (.ref (He.ga K "BadKin")) (.type "ValueError") = some true)) rfl), of_decide_eq_true (c.e 11 (b := fun K => decide (PySem.W.exmOne K (.ref (He.ga K "BadReach")) (.ref (He.ga K "BadReach")) = some true)) rfl), of_decide_eq_true (c.e 12 (b := fun K => decide (PySem.W.exmOne K (.ref (He.ga K "BadReach")) (.ref (He.ga K "ForkError")) = some true)) rfl), of_decide_eq_true (c.e 13 (b := fun K => decide (PySem.W.kitOne K (.ref (He.ga K "BadReach")) (.ref (He.ga K "BadCell")) = some false)) rfl), of_decide_eq_true (c.e 14 (b := fun K => decide (PySem.W.kitOne K (.ref (He.ga K "BadReach")) (.ref (He.ga K "BadKin")) = some false)) rfl), of_decide_eq_true (c.e 15 (b := fun K => decide (PySem.W.kitOne K (.ref (He.ga K "BadReach")) (.ref (He.ga K "BadReach")) = some true)) rfl), of_decide_eq_true (c.e 16 (b := fun K => decide (PySem.W.kitOne K (.ref (He.ga K "BadReach")) (.type "ValueError") = some true)) rfl)⟩
def loose0 : List PySem.Str := ["_wall", "__name__", "ForkError", "BadKin", "BadReach", "BadCell", "BadText", "DIGITS", "MOST_DIGITS", "read_number", "SIDES", "OPPOSITE", "capped", "fits_side", "Kin", "line_word", "open_kins", "LEAST_REACH", "MOST_REACH", "demand_reach", "all_cells", "number_text", "cell_text", "_law_start", "_law_draw", "_law_is_number", "_law_same", "_law_sides", "_law_kin", "_law_is_kin"]
def loose1 : List PySem.Str := ["_law_are_kins", "_law_cells", "_law_cell_text", "_law_listed", "_law_refused", "_law_base"]
def loose : List PySem.Str := loose0 ++ loose1
abbrev R : PySem.W.OpenRow := PySem.W.OpenLaw.row PySem.Challenge.rw_forkwaits_k14_cells_of_a_reach
abbrev hk : PySem.W.Hook := hookZ PySem.Challenge.pw_forkwaits_k14_cells_of_a_reach 6 fa fn ts su gd ex
def ob (s : PySem.W.SharedT) : AlZ := obsZG PySem.Challenge.pw_forkwaits_k14_cells_of_a_reach 6 fa fn ts su gd ex (HandSHeadRun.getT s)
theorem ob_eq (s : PySem.W.SharedT) : ob s = hk.obs s.abs := obsZG_eq (HandSHeadRun.getT_eq s)
theorem run (w : World) : HandSHeadRun.RunEq R (PySem.W.view R.prog [40]) hk ob 30000 loose w := by
  refine PySem.W.byRow2 "special-get-raises" (P := fun w => HandSHeadRun.RunEq R (PySem.W.view R.prog [40]) hk ob 30000 loose w) (fun w => ?_) (fun w => ?_) w
  · intro os
    kernel_rfl
  · intro os
    kernel_rfl
theorem facts {w : World} {K : PySem.W.Frag} {h : Heap} {mg : Str → Option Value} {f : Addr} (X : K.In h) (G : h.Ns mainGlobals mg) (hfa : mg ("law" : Str) = some (.ref f)) (c : SaysZ PySem.Challenge.pw_forkwaits_k14_cells_of_a_reach fa fn ts su gd ex w K) :
    ∃ fd : FuncData, (∀ (s : Shared) (v : Value), BindsTo s fd ⟨[v], []⟩ [("script", v)]) ∧ ∀ base : Heap, K.In base → base.Ns mainGlobals mg → FnOk PySem.Challenge.pw_forkwaits_k14_cells_of_a_reach w K mg base CX0 12 f fd ["script"] (spLawM K) := by
  have hd := hd_of (w := w) X G c
  obtain ⟨fd, F⟩ := hd.d_law
  have e := hfa.symm.trans hd.gd_law
  cases e
  have b := FunD.bindsA (ps := ["script"]) F fun _ _ _ _ _ _ us hl => match us, hl with | [_], _ => rfl
  refine ⟨fd, fun s v => b s [v] rfl, fun base _ _ => ?_⟩
  exact fn_quiet (fn_imp (g_law (base := base) hd F) fun vs H Q E q => law_sp law_ok q) fun vs H Q E q => q
end K14
open PySem PySem.W PySem.Calls PyProof.Rows
theorem PySem.Challenge.cw_forkwaits_k14_cells_of_a_reach_holds : PySem.Challenge.rw_forkwaits_k14_cells_of_a_reach.Holds := by
  w_on; o_law
  refine HandSHeadRun.head_any (r := OpenLaw.row PySem.Challenge.rw_forkwaits_k14_cells_of_a_reach) (q := view (OpenLaw.row PySem.Challenge.rw_forkwaits_k14_cells_of_a_reach).prog [40]) (H := K14.hk) (ob := K14.ob) (M := 30000) (loose := K14.loose) (d := HandSHeadRun.topDef (OpenLaw.row PySem.Challenge.rw_forkwaits_k14_cells_of_a_reach).prog 40) (kwd := []) K14.ob_eq
    (by kernel_rfl) (fun s => by kernel_rfl) K14.run (by kernel_rfl) (by kernel_rfl) (by kernel_rfl) (by rfl) (by first | assumption | decide +kernel) (by decide +kernel) ⟨rfl, rfl, rfl, rfl, rfl, by decide +kernel⟩ ?hw ?hc
  case hw => w_witness2
  case hc =>
    refine L2.walk_ofE (l := PySem.Challenge.rw_forkwaits_k14_cells_of_a_reach) (n := 63) (k := 12) (x := "script") (CX := L2.CX0) rfl (by decide) (by kernel_rfl) ⟨rfl, by decide, by decide⟩ ?F (fun _ _ _ _ z => z)
    intro w mg fa h Y G hmg0
    obtain ⟨K, KX, c⟩ := Y
    have hmg : mg ("law" : PySem.Str) = some (.ref fa) := by
      have e : (HandSHeadRun.topDef (OpenLaw.row PySem.Challenge.rw_forkwaits_k14_cells_of_a_reach).prog 40).name = ("law" : PySem.Str) := by kernel_rfl
      rw [← e]
      exact hmg0
    obtain ⟨fd, hb, hF⟩ := K14.facts (w := w) KX G hmg c
    exact ⟨K, fd, M.spLawM K, KX, hb, fun H a ns hl ho hS => ⟨a, ns, rfl, M.fzl_of ho hS, hl, fun _ => rfl⟩, hF⟩


