import PyProof.Rows.All
import Wide.All
import OpenK.AllK
import Wide.FinOn
import HandS.Base
import HandS.Call
import HandS.List
import HandS.Ends
import HandS.Words
import HandS.WordsList
import HandS.Exc
import HandS.ExcCtx
import HandS.HotCalls
import HandS.ExcInit
import HandS.ExcInitHot
import KE.KExcSuper
import HandS.ForMost
import HandS.Wide
import HandS.StrMore
import HandS.Flow
import HandS.CallSlots
import HandS.Defaults
import HandS.IsInst
import HandS.ExcField
import HandS.RaiseMore
import KE.KExcIs
import HandS.HeadHook1
import HandS.HeadHook2
import HandS.HeadHook3
import HandS.Head0
import HandS.Head1
import HandS.Head2
import HandS.HeadEnd
import HandS.Property
import KE.KOpsOwn
import HandS.SlotsOwn
import HandS.Strs
import PyProof.Rows.RuleN_abs
import HandS.Text
import KE.IntTextLaws
import PySem.Challenge.RW_forkwaits_k04_words_of_kins
set_option Elab.async false
set_option linter.all false
set_option maxRecDepth 100000
set_option maxHeartbeats 4000000
/-! Z0: symbolic heaps (chunks), stops of readings -/
namespace Z
open PySem PySem.Spec PyProof.Rows L2
abbrev Chunk := List (Addr × HO) → Prop
/-- one object -/
def pt (a : Addr) (o : HO) : Chunk := fun l => l = [(a, o)]
inductive Split : List Chunk → List (Addr × HO) → Prop
  | nil : Split [] []
  | cons {c : Chunk} {cs : List Chunk} {l r : List (Addr × HO)} : c l → Split cs r → Split (c :: cs) (l ++ r)
theorem Split.app : ∀ {as bs : List Chunk} {l r : List (Addr × HO)}, Split as l → Split bs r → Split (as ++ bs) (l ++ r)
  | _, _, _, _, .nil, s => s
  | _, _, _, _, .cons h t, s => by
    rw [List.append_assoc]
    exact .cons h (Split.app t s)
theorem Split.cut : ∀ {as bs : List Chunk} {l : List (Addr × HO)}, Split (as ++ bs) l → ∃ l1 l2, l = l1 ++ l2 ∧ Split as l1 ∧ Split bs l2
  | [], _, l, s => ⟨[], l, rfl, .nil, s⟩
  | c :: as, bs, l, s => by
    cases s with
    | cons h t =>
      obtain ⟨l1, l2, e, s1, s2⟩ := Split.cut t
      refine ⟨_ ++ l1, l2, ?_, .cons h s1, s2⟩
      rw [e, List.append_assoc]
/-- the heap bears these chunks, apart from one another -/
structure Own (cs : List Chunk) (H : Hp) : Prop where
  out : ∃ l, Split cs l ∧ (l.map (·.1)).Nodup ∧ ∀ q ∈ l, H q.1 = some q.2
theorem Own.nil {H : Hp} : Own [] H := ⟨[], .nil, List.nodup_nil, fun _ h => nomatch h⟩
theorem Own.new {cs : List Chunk} {H : Hp} {p : Addr} {o : HO} (h : Own cs H) (n : H p = none) : Own (pt p o :: cs) (upd H p o) := by
  obtain ⟨l, s, d, g⟩ := h.out
  have ne : ∀ q ∈ l, q.1 ≠ p := fun q hq e => by
    have z := g q hq
    rw [e, n] at z
    cases z
  refine ⟨(p, o) :: l, .cons (l := [(p, o)]) rfl s, ?_, fun q hq => ?_⟩
  · rw [List.map_cons]
    refine List.nodup_cons.mpr ⟨fun hm => ?_, d⟩
    obtain ⟨q, hq, e⟩ := List.mem_map.mp hm
    exact ne q hq e
  · rcases List.mem_cons.mp hq with e | hq
    · subst e
      exact upd_same
    · rw [upd_ne (ne q hq)]
      exact g q hq
theorem Split.mem : ∀ {cs : List Chunk} {l : List (Addr × HO)} {a : Addr} {o : HO}, Split cs l → pt a o ∈ cs → (a, o) ∈ l
  | _, _, a, o, .cons (l := l1) h t, hm => by
    rcases List.mem_cons.mp hm with e | hm
    · rw [← e] at h
      have h' : l1 = [(a, o)] := h
      rw [h']
      exact List.mem_append_left _ List.mem_cons_self
    · exact List.mem_append_right _ (Split.mem t hm)
theorem Own.get {cs : List Chunk} {H : Hp} {a : Addr} {o : HO} (h : Own cs H) (m : pt a o ∈ cs) : H a = some o := by
  obtain ⟨l, s, _, g⟩ := h.out
  exact g _ (s.mem m)
/-- one object of the list is put in another's place -/
inductive Rep (a : Addr) (o o' : HO) : List Chunk → List Chunk → Prop
  | here {cs : List Chunk} : Rep a o o' (pt a o :: cs) (pt a o' :: cs)
  | there {c : Chunk} {cs ds : List Chunk} : Rep a o o' cs ds → Rep a o o' (c :: cs) (c :: ds)
theorem Rep.split {a : Addr} {o o' : HO} : ∀ {cs ds : List Chunk} {l : List (Addr × HO)}, Rep a o o' cs ds → Split cs l → ∃ l1 l2, l = l1 ++ (a, o) :: l2 ∧ Split ds (l1 ++ (a, o') :: l2)
  | _, _, _, .here, .cons (l := l1) (r := r) h t => by
    have h' : l1 = [(a, o)] := h
    subst h'
    exact ⟨[], r, rfl, .cons (l := [(a, o')]) rfl t⟩
  | _, _, _, .there m, .cons (l := l0) h t => by
    obtain ⟨l1, l2, e, s⟩ := Rep.split m t
    refine ⟨l0 ++ l1, l2, ?_, ?_⟩
    · rw [e, List.append_assoc]
    · rw [List.append_assoc]
      exact .cons h s
theorem Own.set {cs ds : List Chunk} {H : Hp} {a : Addr} {o o' : HO} (h : Own cs H) (m : Rep a o o' cs ds) : Own ds (upd H a o') := by
  obtain ⟨l, s, d, g⟩ := h.out
  obtain ⟨l1, l2, e, s'⟩ := m.split s
  subst e
  have d' : ((l1 ++ (a, o') :: l2).map (·.1)).Nodup := by
    simpa only [List.map_append, List.map_cons] using d
  refine ⟨_, s', d', fun q hq => ?_⟩
  rw [List.map_append, List.map_cons] at d'
  obtain ⟨_, d2, d3⟩ := List.nodup_append.mp d'
  rcases List.mem_append.mp hq with hq | hq
  · have ne : q.1 ≠ a := d3 _ (List.mem_map_of_mem hq) _ List.mem_cons_self
    rw [upd_ne ne]
    exact g q (List.mem_append_left _ hq)
  · rcases List.mem_cons.mp hq with e | hq
    · subst e
      exact upd_same
    · have ne : q.1 ≠ a := fun e => (List.nodup_cons.mp d2).1 (List.mem_map.mpr ⟨q, hq, e⟩)
      rw [upd_ne ne]
      exact g q (List.mem_append_right _ (List.mem_cons_of_mem _ hq))
/-- a chunk is brought to the front -/
inductive Pull : List Chunk → Chunk → List Chunk → Prop
  | here {c : Chunk} {cs : List Chunk} : Pull (c :: cs) c cs
  | there {c d : Chunk} {cs r : List Chunk} : Pull cs c r → Pull (d :: cs) c (d :: r)
theorem Pull.split : ∀ {cs r : List Chunk} {c : Chunk} {l : List (Addr × HO)}, Pull cs c r → Split cs l → ∃ l', Split (c :: r) l' ∧ l'.Perm l
  | _, _, _, l, .here, s => ⟨l, s, .refl _⟩
  | _, _, _, _, .there m, .cons (l := l0) h t => by
    obtain ⟨l', s', p⟩ := Pull.split m t
    cases s' with
    | @cons _ _ x y hc s2 =>
      refine ⟨x ++ (l0 ++ y), .cons hc (.cons h s2), ?_⟩
      rw [← List.append_assoc]
      refine (List.Perm.append_right y List.perm_append_comm).trans ?_
      rw [List.append_assoc]
      exact p.append_left l0
theorem Own.pull {cs r : List Chunk} {c : Chunk} {H : Hp} (h : Own cs H) (m : Pull cs c r) : Own (c :: r) H := by
  obtain ⟨l, s, d, g⟩ := h.out
  obtain ⟨l', s', p⟩ := m.split s
  exact ⟨l', s', ((p.map (·.1)).nodup_iff).mpr d, fun q hq => g q (p.mem_iff.mp hq)⟩
/-- a list of chunks is brought to the front -/
inductive Pulls : List Chunk → List Chunk → List Chunk → Prop
  | nil {cs : List Chunk} : Pulls cs [] cs
  | cons {c : Chunk} {cs ds r r' : List Chunk} : Pull cs c r → Pulls r ds r' → Pulls cs (c :: ds) r'
theorem Own.swap {c d : Chunk} {cs : List Chunk} {H : Hp} (h : Own (c :: d :: cs) H) : Own (d :: c :: cs) H := h.pull (.there .here)
theorem Own.tail {c : Chunk} {cs : List Chunk} {H : Hp} (h : Own (c :: cs) H) : Own cs H := by
  obtain ⟨l, s, d, g⟩ := h.out
  cases s with
  | cons hc t =>
    rw [List.map_append] at d
    exact ⟨_, t, (List.nodup_append.mp d).2.1, fun q hq => g q (List.mem_append_right _ hq)⟩
theorem Pulls.split : ∀ {cs ds r : List Chunk} {l : List (Addr × HO)}, Pulls cs ds r → Split cs l → ∃ l', Split (ds ++ r) l' ∧ l'.Perm l
  | _, _, _, l, .nil, s => ⟨l, s, .refl _⟩
  | _, _, _, _, .cons m ms, s => by
    obtain ⟨l1, s1, p1⟩ := m.split s
    cases s1 with
    | cons hc t =>
      obtain ⟨l2, s2, p2⟩ := Pulls.split ms t
      exact ⟨_, .cons hc s2, (p2.append_left _).trans p1⟩
theorem Own.pulls {cs ds r : List Chunk} {H : Hp} (h : Own cs H) (m : Pulls cs ds r) : Own (ds ++ r) H := by
  obtain ⟨l, s, d, g⟩ := h.out
  obtain ⟨l', s', p⟩ := m.split s
  exact ⟨l', s', ((p.map (·.1)).nodup_iff).mpr d, fun q hq => g q (p.mem_iff.mp hq)⟩
theorem Own.drop : ∀ {ds cs : List Chunk} {H : Hp}, Own (ds ++ cs) H → Own cs H
  | [], _, _, h => h
  | _ :: _, _, _, h => Own.drop (Own.tail h)
/-- chunks under a word: there are x with P x and the chunks f x -/
def cEx {α : Type} (P : α → Prop) (f : α → List Chunk) : Chunk := fun l => ∃ x, P x ∧ Split (f x) l
theorem Own.opn {α : Type} {P : α → Prop} {f : α → List Chunk} {cs : List Chunk} {H : Hp} (h : Own (cEx P f :: cs) H) : ∃ x, P x ∧ Own (f x ++ cs) H := by
  obtain ⟨l, s, d, g⟩ := h.out
  cases s with
  | cons hc t =>
    obtain ⟨x, px, sx⟩ := hc
    exact ⟨x, px, _, sx.app t, d, g⟩
theorem Own.cls {α : Type} {P : α → Prop} {f : α → List Chunk} {cs : List Chunk} {H : Hp} (x : α) (p : P x) (h : Own (f x ++ cs) H) : Own (cEx P f :: cs) H := by
  obtain ⟨l, s, d, g⟩ := h.out
  obtain ⟨l1, l2, e, s1, s2⟩ := s.cut
  subst e
  exact ⟨_, .cons ⟨x, p, s1⟩ s2, d, g⟩
/-- the address of an object of the list is not one that is free -/
theorem Own.ne_free {cs : List Chunk} {H : Hp} {a p : Addr} {o : HO} (h : Own cs H) (m : pt a o ∈ cs) (n : H p = none) : a ≠ p := ne_of_none (h.get m) n
/-- two objects of the list stand apart -/
theorem Own.ne {cs : List Chunk} {H : Hp} {a b : Addr} {o u : HO} (h : Own (pt a o :: cs) H) (m : pt b u ∈ cs) : a ≠ b := by
  obtain ⟨l, s, d, g⟩ := h.out
  cases s with
  | @cons _ _ l0 _ hc t =>
    have hc' : l0 = [(a, o)] := hc
    subst hc'
    intro e
    subst e
    have hm := t.mem m
    rw [List.singleton_append, List.map_cons] at d
    exact (List.nodup_cons.mp d).1 (List.mem_map.mpr ⟨_, hm, rfl⟩)
/-! ### where a reading stops -/
structure ZIf (c A B : Prop) : Prop where
  t : c → A
  f : ¬ c → B
structure ZGet (H : Hp) (a : Addr) (R : HO → Prop) : Prop where
  out : ∃ o, H a = some o ∧ R o
structure ZNew (H : Hp) (o : HO) (R : Addr → Hp → Prop) : Prop where
  out : ∀ p, H p = none → R p (upd H p o)
structure ZSet (H : Hp) (a : Addr) (o : HO) (R : Hp → Prop) : Prop where
  out : R (upd H a o)
structure ZSide (c A : Prop) : Prop where
  c : c
  a : A
structure ZCall (sp : Sp) (vs : List V) (H : Hp) (Q : VK) (E : XK) : Prop where
  out : sp vs H Q E
/-- a list (true) or a tuple (false) is read -/
structure ZSq (K : PySem.W.Frag) (H : Hp) (a : Addr) (R : Bool → List V → Prop) : Prop where
  out : ∃ b xs, (match b with | true => SqL K H a xs | false => SqT K H a xs) ∧ R b xs
structure ZAt {α : Type} (xs : List α) (i : Int) (R : α → Prop) : Prop where
  out : ∃ v, atI xs i = some v ∧ R v
section
variable {K : PySem.W.Frag} {H : Hp} {cs ds : List Chunk} {a : Addr} {o o' : HO}
theorem zget {R : HO → Prop} (h : Own cs H) (m : pt a o ∈ cs) (r : R o) : ZGet H a R := ⟨o, h.get m, r⟩
theorem znew {R : Addr → Hp → Prop} (h : Own cs H) (r : ∀ p H', Own (pt p o :: cs) H' → R p H') : ZNew H o R := ⟨fun p n => r p _ (h.new n)⟩
theorem zset {R : Hp → Prop} (h : Own cs H) (m : Rep a o o' cs ds) (r : ∀ H', Own ds H' → R H') : ZSet H a o' R := ⟨r _ (h.set m)⟩
theorem zsq_l {R : Bool → List V → Prop} {xs : List V} (h : Own cs H) (m : pt a (.lst xs) ∈ cs) (r : R true xs) : ZSq K H a R := ⟨true, xs, SqL.of (h.get m), r⟩
theorem zsq_t {R : Bool → List V → Prop} {xs : List V} (h : Own cs H) (m : pt a (.tup xs) ∈ cs) (r : R false xs) : ZSq K H a R := ⟨false, xs, SqT.of (h.get m), r⟩
theorem zsq_f {R : Bool → List V → Prop} {xs : List V} {ob : Obj} (h : Own cs H) (m : pt a (.frz ob (.lst xs)) ∈ cs) (r : R true xs) : ZSq K H a R := ⟨true, xs, .inl (.inr ⟨ob, h.get m⟩), r⟩
theorem zsq_kl {R : Bool → List V → Prop} {xs : List V} (h : ∀ H, SqL K H a xs) (r : R true xs) : ZSq K H a R := ⟨true, xs, h H, r⟩
theorem zsq_kt {R : Bool → List V → Prop} {xs : List V} (h : ∀ H, SqT K H a xs) (r : R false xs) : ZSq K H a R := ⟨false, xs, h H, r⟩
theorem zif_t {c A B : Prop} (h : c) (a : A) : ZIf c A B := ⟨fun _ => a, fun n => (n h).elim⟩
theorem zif_f {c A B : Prop} (h : ¬ c) (b : B) : ZIf c A B := ⟨fun p => (h p).elim, fun _ => b⟩
theorem zif_iff {c A B : Prop} [Decidable c] : ZIf c A B = if c then A else B := by
  refine propext ⟨fun h => ?_, fun h => ?_⟩
  · by_cases p : c
    · rw [if_pos p]
      exact h.t p
    · rw [if_neg p]
      exact h.f p
  · by_cases p : c
    · rw [if_pos p] at h
      exact zif_t p h
    · rw [if_neg p] at h
      exact zif_f p h
end
end Z

/-! ZExc: own errors whose __init__ begins with super().__init__(..) -/
namespace Z
open PySem PySem.Spec PyProof.Rows L2
open PySem.HandSPX (excO)
section
variable {K : PySem.W.Frag} {mg : Str → Option Value} {h h' : Heap} {x : Addr} {o : Obj}
theorem ns_but {b : Addr} {m : Str → Option Value} (n : h.Ns b m) (ho : h.get? x = some o) (hd : ∀ es ep, o.data ≠ .dict es ep) (k : ∀ b u, b ≠ x → h.get? b = some u → h'.get? b = some u) : h'.Ns b m := by
  obtain ⟨u, es, ep, e, d, r⟩ := n
  have ne : b ≠ x := fun z => by
    rw [z, ho] at e
    cases e
    exact hd _ _ d
  exact ⟨u, es, ep, k b u ne e, d, r⟩
theorem mod_but (M : Mod K mg h) (hx : K.lookup x = none) (ho : h.get? x = some o) (hd : ∀ es ep, o.data ≠ .dict es ep) (k : ∀ b u, b ≠ x → h.get? b = some u → h'.get? b = some u) : Mod K mg h' := by
  obtain ⟨mb, n1, n2⟩ := M.blt
  obtain ⟨mc, l1, l2⟩ := M.nolimit
  refine ⟨fun b u e => k b u (fun z => ?_) (M.kin b u e), ns_but M.glob ho hd k, ⟨mb, ns_but n1 ho hd k, n2⟩, ⟨mc, ns_but l1 ho hd k, l2⟩⟩
  rw [z, hx] at e
  cases e
theorem mod_keep (M : Mod K mg h) (k : ∀ b u, h.get? b = some u → h'.get? b = some u) : Mod K mg h' := by
  obtain ⟨mb, n1, n2⟩ := M.blt
  exact ⟨M.kin.keeps k, M.glob.keeps k, ⟨mb, n1.keeps k, n2⟩, M.nolimit.keeps k⟩
end
/-- a method over a cell of its class, as the top has left it -/
structure SupFn (P : Program) (K : PySem.W.Frag) (D f : Addr) (name qual : Str) (params : Arguments) (body : List Stmt) (scope : Scope) (cda cc : Addr) (fd : FuncData) : Prop where
  lk : ∃ (oc : Value) (od : Option Addr) (doc pm : Value) (an : Option Addr) (ct : Value) (osl : Array (Option Value)),
    fd = PySem.W.ksFn name qual params body scope .none .none doc pm an (.ref cda) ct cc ∧ K.lookup f = some ⟨oc, od, .func fd, osl⟩
  cd : PySem.W.codeIn K (.ref cda) qual = true
  co : ∃ (cl : Value) (dd : Option Addr) (vs : Array Value) (sl : Array (Option Value)) (file : Str) (tf : Tok), K.lookup cda = some ⟨cl, dd, .fields vs, sl⟩ ∧ vs[2]? = some (.str file tf) ∧ ((P.main.file : Str) == file) = true
  ce : ∃ (cl : Value) (dd : Option Addr) (sl : Array (Option Value)), K.lookup cc = some ⟨cl, dd, .cell (some (.ref D)), sl⟩
  ty : PySem.W.typeIn K (.ref f) = some (.type "function")
  dc : (PySem.W.clsIn K D).isSome = true
section
variable {P : Program} {w : World} {A : Around} {E : Value → Shared → Prop} {s : Shared} {K : PySem.W.Frag} {mg : Str → Option Value} {D f cda cc x C t0 L : Addr} {name qual : Str} {params : Arguments} {scope : Scope} {body bd : List Stmt} {fd : FuncData} {m : Str → Option Value}
theorem sup_obj {p0 p1 : Pos} {attr : Str} {whole : Sem Value} {ar : Arg} {Q : Value → Shared → Prop} (M : Mod K mg s.heap) (hn : s.heap.Ns L m) (F : SupFn P K D f name qual params bd scope cda cc fd)
    (hp : (params.posonlyargs ++ params.args).head? = some ar) (hv : m ar.arg = some (.ref x)) (hx : s.heap.get? x = some (excO C t0)) (hsub : PySem.W.mroIn K C (.ref D) = some true) (hsuper : mg "super" = none)
    (hat : (attr == ("__class__" : Str)) = false) (hks : scope.names.lookup ("super" : Str) = some .globalImplicit) (hkc : scope.names.lookup ("__class__" : Str) = some .free) (hka : scope.names.lookup ar.arg = some .local) (hk : scope.kind = .function)
    (htop : (P.main.scope.names.lookup ("super" : Str)).isSome = false)
    (hq : ∀ h', h'.get? s.heap.objs.size = some (PySem.W.ks_superObj D x C) → (∀ y o, s.heap.get? y = some o → h'.get? y = some o) → Q (.ref s.heap.objs.size) { s with heap := h' }) :
    _root_.PySem.wpAt (model P w) A (.func body (PySem.W.ksEnv qual scope L f (.ref cda) cc)) (attributeBase (.Call (.Name "super" p0) [] [] p1) attr (PySem.W.ksEnv qual scope L f (.ref cda) cc) whole) Q E s := by
  have X := M.kin
  obtain ⟨mb, nb, hb⟩ := M.blt
  obtain ⟨oc, od, doc, pm, an, ct, osl, rfl, lf⟩ := F.lk
  obtain ⟨cl, dd, vs, sl, file, tf, lc, e2, ef⟩ := F.co
  obtain ⟨cl', dd', sl', lce⟩ := F.ce
  obtain ⟨cdD, hD⟩ := Option.isSome_iff_exists.mp F.dc
  obtain ⟨hh, g, d, t, os⟩ := s
  obtain ⟨oD, hD1, hD2⟩ : ∃ oD, hh.get? D = some oD ∧ oD.data = .cls cdD := by
    unfold PySem.W.clsIn at hD
    split at hD
    · rename_i c d cd' sl ho
      cases hD
      exact ⟨_, X _ _ ho, rfl⟩
    · cases hD
  refine PySem.ks_wpAt_super_base (env := PySem.W.ksEnv qual scope L f (.ref cda) cc) hks hkc hat rfl (X _ _ lf) rfl hp rfl (X _ _ lc) rfl e2 ef htop ?_
  refine PySem.W.ks_loadName_global hk hks (Calls.loadGlobal_builtin (env := PySem.W.ksEnv qual scope L f (.ref cda) cc) M.glob hsuper nb ((hb _ (by decide +kernel)).trans (by decide +kernel : bootBuiltins "super" = some (.type "super"))) ⟨rfl, ?_⟩)
  refine wpAny_loadName_free hk hkc rfl ⟨_, X _ _ lce, rfl⟩ ?_
  refine wpAny_loadName_local hk hka hn hv ?_
  refine PySem.ks_wpAny_isType_cls hD1 hD2 ⟨rfl, ?_⟩
  exact PySem.ks_wpAny_call_super hD1 hD2 hx rfl (fun c z => by cases z) (PySem.W.looks_mroIn X hsub) hq
end
/-! ### what is written in such an __init__ -/
/-- a parameter, a written text -/
inductive Src where
  | par (i : Nat)
  | cst (x : Str)
def Src.val (vs : List V) : Src → V
  | .par i => vs.getD i .non
  | .cst x => .str x
inductive SrcE (ps : List Str) : Src → Expr → Prop
  | par {i : Nat} {nm : Str} {q : Pos} : ps[i]? = some nm → (nm == ("__debug__" : Str)) = false → SrcE ps (.par i) (.Name nm q)
  | cst {x : Str} {j : Nat} {q : Pos} : SrcE ps (.cst x) (.Constant (.str x) j q)
/-- self.f = source -/
inductive StE (ps : List Str) : Str × Src → Stmt → Prop
  | mk {f : Str} {s : Src} {e : Expr} {q1 q2 q3 : Pos} : SrcE ps s e → StE ps (f, s) (.Assign [.Attribute (.Name "self" q1) f q2] e q3)
/-- the names stand in the frame -/
structure Loaded (env : Env) (ps : List Str) (us : List Value) (x : Addr) (m : Str → Option Value) : Prop where
  kind : env.scope.kind = .function
  slf : env.kindOf "self" = some .local
  par : ∀ (i : Nat) (nm : Str), ps[i]? = some nm → env.kindOf nm = some .local
  mself : m "self" = some (.ref x)
  mpar : ∀ (i : Nat) (nm : Str), ps[i]? = some nm → m nm = us[i]?
section
variable {M : Model} {A : Around} {E : Value → Shared → Prop} {s : Shared} {env : Env} {ps : List Str} {us : List Value} {vs : List V} {x : Addr} {m : Str → Option Value}
theorem src_ok {src : Src} {e : Expr} {Q : Value → Shared → Prop} (Ld : Loaded env ps us x m) (hn : s.heap.Ns env.locals m) (r : Vals vs us) (hl : ps.length = vs.length) (h : SrcE ps src e)
    (q : ∀ u tk, RelV (src.val vs) u → Q u { s with toks := tk }) : wpAny M A (eval e env) Q E s := by
  cases h with
  | @par i nm p hp hd =>
    have hi : i < vs.length := by
      have z := (List.getElem?_eq_some_iff.mp hp).1
      omega
    obtain ⟨u, hu, ru⟩ := r.get (List.getElem?_eq_getElem hi)
    refine wpAny_Name (wpAny_loadName_local Ld.kind (Ld.par i nm hp) hn ((Ld.mpar i nm hp).trans hu) ?_) hd
    refine q u s.toks ?_
    have ev : Src.val vs (.par i) = vs[i] := by
      show vs.getD i .non = vs[i]
      rw [List.getD_eq_getElem?_getD, List.getElem?_eq_getElem hi, Option.getD_some]
    rw [ev]
    exact ru
  | @cst z j p =>
    exact Calls.Constant_str (q _ _ ⟨_, rfl⟩)
theorem srcs_ok {pos : Pos} (Ld : Loaded env ps us x m) (r : Vals vs us) (hl : ps.length = vs.length) {srcs : List Src} {es : List Expr} (hp : Paired (SrcE ps) srcs es) : ∀ {s : Shared} {Q : List Value → Shared → Prop}, s.heap.Ns env.locals m →
    (∀ ws tk, Vals (srcs.map (Src.val vs)) ws → Q ws { s with toks := tk }) → wpAny M A (spliced (backTo pos (starEach es env))) Q E s := by
  induction hp with
  | nil =>
    intro s Q hn q
    exact Calls.spliced_nil (q [] s.toks .nil)
  | @cons a e srcs es h t ih =>
    intro s Q hn q
    have he : starEach (e :: es) env = (false, eval e env) :: starEach es env := by
      cases h
      · rfl
      · rfl
    rw [he]
    show wpAny _ _ (spliced ((false, eval e env) :: backTo pos (starEach es env))) _ _ s
    refine Calls.spliced_cons (src_ok Ld hn r hl h fun u tk ru => ?_)
    exact ih (s := { s with toks := tk }) hn fun ws tk' rw' => q (u :: ws) tk' (.cons ru rw')
end
/-! ### the class of the error -/
section
variable {P : Program} {w : World} {A : Around} {E : Value → Shared → Prop} {s : Shared} {K : PySem.W.Frag} {mg : Str → Option Value} {x C t1 dx : Addr} {f : Str} {u : Value} {y : V}
/-- self.f = u where there is no dict as yet -/
theorem set_first (T : OexC K C) (M : Mod K mg s.heap) (hx : s.heap.get? x = some (excO C t1)) (ha : PySem.W.findIn K (.ref C) f = some none) {Q : Unit → Shared → Prop}
    (q : ∀ h' tk dx, (∀ b o, b ≠ x → s.heap.get? b = some o → h'.get? b = some o) → s.heap.objs.size ≤ dx → dx ≠ x →
      h'.get? x = some ({ cls := .ref C, dict := some dx, data := .fields #[.ref t1, .none, .none, .none, .bool false, .none] } : Obj) → h'.Ns1 dx (fun y => if y = f then some u else none) → Q () { s with heap := h', toks := tk }) :
    wpAny (model P w) A (setAttr (.ref x) f u) Q E s := by
  obtain ⟨nm, qn, N, bs, bm, sn, sub, ab, col, dd, k0, k1, k2, k3, k5, hC, hbm⟩ := T.cls
  have hcl : PySem.W.clsIn K C = some { name := nm, bases := bs, mro := .ref C :: bm, ns := N, qualname := qn, hasDict := true, slotNames := sn, subclasses := sub, abstract := ab, collection := col, hasDel := false } := by
    unfold PySem.W.clsIn
    rw [hC]
    all_goals rfl
  obtain ⟨hp, g, d, t, os⟩ := s
  refine PySem.W.set_plain M.kin (ox := excO C t1) (od := none) ⟨hx, rfl, rfl, trivial⟩ T.sa ?_
  exact PySem.HandSPX.exc_osa M.kin hx hcl (show PySem.HandSPX.refsVE (.ref C :: bm) = true from hbm) rfl ha fun h' tk' dx k dn dne hx' hn => q h' tk' dx k dn dne hx' hn
/-- self.f = u where there is one -/
theorem set_next {mA : Str → Option Value} {fs : List (Str × V)} (T : OexC K C) (M : Mod K mg s.heap) (hx : s.heap.get? x = some ({ cls := .ref C, dict := some dx, data := .fields #[.ref t1, .none, .none, .none, .bool false, .none] } : Obj))
    (hns : s.heap.Ns1 dx mA) (rel : ∀ f, RelO (fs.lookup f) (mA f)) (hl : fs.length ≤ 900) (ha : PySem.W.findIn K (.ref C) f = some none) {Q : Unit → Shared → Prop}
    (q : ∀ h' tk, (∀ b o, b ≠ dx → s.heap.get? b = some o → h'.get? b = some o) → h'.Ns1 dx (fun y => if y = f then some u else mA y) → Q () { s with heap := h', toks := tk }) :
    wpAny (model P w) A (setAttr (.ref x) f u) Q E s := by
  obtain ⟨nm, qn, N, bs, bm, sn, sub, ab, col, dd, k0, k1, k2, k3, k5, hC, hbm⟩ := T.cls
  have hcl : PySem.W.clsIn K C = some { name := nm, bases := bs, mro := .ref C :: bm, ns := N, qualname := qn, hasDict := true, slotNames := sn, subclasses := sub, abstract := ab, collection := col, hasDel := false } := by
    unfold PySem.W.clsIn
    rw [hC]
    all_goals rfl
  have hw := within_of rel
  obtain ⟨hp, g, d, t, os⟩ := s
  obtain ⟨oD, _, _, hoD, _, _⟩ := hns.count hw
  refine PySem.W.set_plain M.kin (ox := { cls := .ref C, dict := some dx, data := .fields #[.ref t1, .none, .none, .none, .bool false, .none] }) (od := some oD) ⟨hx, rfl, rfl, hoD⟩ T.sa ?_
  exact PySem.OEX.osa_old M.kin hx hns hw (by rw [List.length_map]; omega) hcl (show PySem.HandSPX.refsVE (.ref C :: bm) = true from hbm) rfl ha fun h' tk' k hn => q h' tk' k hn
/-- what an __init__ has left of x -/
structure Made (h h' : Heap) (x C dx : Addr) (fs : List (Str × V)) : Prop where
  keep : ∀ b o, b ≠ x → h.get? b = some o → h'.get? b = some o
  obj : ∃ t1 : Addr, h'.get? x = some ({ cls := .ref C, dict := some dx, data := .fields #[.ref t1, .none, .none, .none, .bool false, .none] } : Obj)
  big : h.objs.size ≤ dx
  ne : dx ≠ x
  ns : ∃ mA, h'.Ns1 dx mA ∧ ∀ f, RelO (fs.lookup f) (mA f)
  few : fs.length ≤ 800
theorem Made.mod {h h' : Heap} {fs : List (Str × V)} (D : Made h h' x C dx fs) (M : Mod K mg h) (hx : h.get? x = some (excO C t1)) (hk : K.lookup x = none) : Mod K mg h' :=
  mod_but M hk hx (fun _ _ z => by cases z) D.keep
/-- the stores behind the call of super -/
theorem stores_ok {env : Env} {ps : List Str} {us : List Value} {vs : List V} {m : Str → Option Value} {h₀ : Heap} (T : OexC K C) (Ld : Loaded env ps us x m) (r : Vals vs us) (hl : ps.length = vs.length) (hx0 : h₀.get? x = some (excO C t1)) (hk : K.lookup x = none)
    (hL : h₀.Ns env.locals m) (M0 : Mod K mg h₀) {l : List (Str × Src)} {sts : List Stmt} (hp : Paired (StE ps) l sts) : ∀ {s : Shared} {fs : List (Str × V)} {Q : Flow → Shared → Prop}, (∀ p ∈ l, PySem.W.findIn K (.ref C) p.1 = some none) →
    Made h₀ s.heap x C dx fs → fs.length + l.length ≤ 800 → (∀ h' tk, Made h₀ h' x C dx (l.foldl (fun a p => (p.1, p.2.val vs) :: a) fs) → Q .next { s with heap := h', toks := tk }) → wpAny (model P w) A (execs sts env) Q E s := by
  induction hp with
  | nil =>
    intro s fs Q _ D _ q
    exact wpAny_execs_nil (q s.heap s.toks D)
  | @cons p st l sts hst t ih =>
    intro s fs Q hf D hz q
    have Mn := D.mod M0 hx0 hk
    have hn : s.heap.Ns env.locals m := ns_but hL hx0 (fun _ _ z => by cases z) D.keep
    obtain ⟨tt, ho⟩ := D.obj
    obtain ⟨mA, hns, rel⟩ := D.ns
    rw [List.length_cons] at hz
    cases hst with
    | @mk f src e q1 q2 q3 he =>
      have hsw : swapsWith e (some (.Attribute (.Name "self" q1) f q2)) q3.line env = pure false := by
        cases he
        · rfl
        · rfl
      refine wpAny_execs_cons (plainObj_wpAny_Assign_Attribute ?_ hsw)
      refine src_ok Ld hn r hl he fun u tk ru => ?_
      refine wpAny_Name (wpAny_loadName_local (s := { s with toks := tk }) Ld.kind Ld.slf hn Ld.mself ?_) (by decide)
      refine set_next (s := { s with toks := tk }) T Mn ho hns rel (by omega) (hf _ List.mem_cons_self) fun h' tk' k hn' => ?_
      have D' : Made h₀ h' x C dx ((f, src.val vs) :: fs) := by
        refine ⟨fun b o hb e => ?_, ⟨tt, k x _ D.ne.symm ho⟩, D.big, D.ne, ⟨_, hn', fun g => relO_put ru rel g⟩, by rw [List.length_cons]; omega⟩
        exact k b o (Nat.ne_of_lt (Nat.lt_of_lt_of_le (Heap.lt_size e) D.big)) (D.keep b o hb e)
      exact ih (s := { s with heap := h', toks := tk' }) (fun p hp => hf p (List.mem_cons_of_mem _ hp)) D' (by rw [List.length_cons]; omega) q
end
/-! ### the promise of such an __init__ -/
def InitOk (P : Program) (w : World) (K : PySem.W.Frag) (mg : Str → Option Value) (C f : Addr) (k n : Nat) (mk : List V → List (Str × V)) : Prop :=
  ∀ (A : Around) (s : Shared) (x t0 : Addr) (us : List Value) (vs : List V) (R : Result → Shared → Prop), A.depth + 3 * k < recursionLimit → Mod K mg s.heap → s.heap.get? x = some (excO C t0) → K.lookup x = none → Vals vs us → vs.length = n →
    (∀ h' tk dx, Made s.heap h' x C dx (mk vs) → R (.ok (.ret .none)) { s with heap := h', toks := tk }) → codeAny (model P w) A (.call (.ref f) ⟨.ref x :: us, []⟩) R s
/-- super().__init__(..) as the semantics reads it -/
def SupCall (e : Expr) (es : List Expr) (p0 p1 p2 p3 : Pos) : Prop := ∀ env : Env, ∃ pl : Sem Bool,
  eval (.Call (.Attribute (.Call (.Name "super" p0) [] [] p1) "__init__" p2) (e :: es) [] p3) env = (do
    let ov ← attributeBase (.Call (.Name "super" p0) [] [] p1) "__init__" env (eval (.Call (.Name "super" p0) [] [] p1) env)
    standAt p2.atName
    let (f, first) ← holding [ov] (getMethod ov "__init__" pl)
    callWith p3 f first (backTo p3 (starEach (e :: es) env)) [])
/-- the shape of such a def -/
structure InitTx (ps : List Str) (args : List Src) (stores : List (Str × Src)) (params : Arguments) (body : List Stmt) (scope : Scope) : Prop where
  first : ∃ ar, (params.posonlyargs ++ params.args).head? = some ar ∧ ar.arg = "self"
  kind : scope.kind = .function
  co : scope.isCoroutine = false
  gen : scope.isGenerator = false
  sup : scope.names.lookup ("super" : Str) = some .globalImplicit
  clsn : scope.names.lookup ("__class__" : Str) = some .free
  slf : scope.names.lookup ("self" : Str) = some .local
  par : ∀ nm ∈ ps, scope.names.lookup nm = some .local
  nocell : ∀ y ∈ scope.names, y.2 ≠ .cell
  nd : (("self" : Str) :: ps).Nodup
  body : ∃ p0 p1 p2 p3 p4 e es sts, body = .Expr (.Call (.Attribute (.Call (.Name "super" p0) [] [] p1) "__init__" p2) (e :: es) [] p3) p4 :: sts ∧ Paired (SrcE ps) args (e :: es) ∧ Paired (StE ps) stores sts ∧ SupCall e es p0 p1 p2 p3
theorem lookup_rev {α : Type} {k : Str} : ∀ {l : List (Str × α)}, (l.map (·.1)).Nodup → l.reverse.lookup k = l.lookup k
  | [], _ => rfl
  | (a, v) :: l, nd => by
    rw [List.map_cons] at nd
    obtain ⟨n1, n2⟩ := List.nodup_cons.mp nd
    rw [List.reverse_cons, List.lookup_append, lookup_rev n2]
    by_cases e : k = a
    · subst e
      have hn : l.lookup k = none := by
        refine List.lookup_eq_none_iff.mpr fun p hp => ?_
        have ne : p.1 ≠ k := fun z => n1 (List.mem_map.mpr ⟨p, hp, z⟩)
        simpa using Ne.symm ne
      rw [hn]
      simp [List.lookup]
    · have eb : (k == a) = false := by simpa using e
      simp [List.lookup, eb]
theorem zip_at {α : Type} : ∀ {ps : List Str} {us : List α} {i : Nat} {nm : Str}, ps.Nodup → ps.length = us.length → ps[i]? = some nm → (ps.zip us).lookup nm = us[i]?
  | [], _, i, _, _, _, h => by simp at h
  | p :: ps, [], _, _, _, h, _ => by simp at h
  | p :: ps, u :: us, 0, nm, _, _, h => by
    simp at h
    subst h
    simp [List.lookup]
  | p :: ps, u :: us, i + 1, nm, nd, hl, h => by
    obtain ⟨n1, n2⟩ := List.nodup_cons.mp nd
    have h' : ps[i]? = some nm := by simpa using h
    have ne : nm ≠ p := fun z => n1 (z ▸ List.mem_of_getElem? h')
    have eb : (nm == p) = false := by simpa using ne
    have q := zip_at (us := us) n2 (by simpa using hl) h'
    simp [List.lookup, eb, q]
/-- what the class of the error and the class D of the def say of super -/
structure SupC (P : Program) (K : PySem.W.Frag) (mg : Str → Option Value) (C D : Addr) (v : Value) : Prop where
  o : OexC K C
  sub : PySem.W.mroIn K C (.ref D) = some true
  sup : PySem.W.ks_superIn K C D "__init__" = some (some v)
  ve : PySem.W.subIn K (.ref C) (.type "ValueError") = some true
  st : PySem.W.nsIn K cStatics "thirdparty.any" = some none
  sg : mg "super" = none
  top : (P.main.scope.names.lookup ("super" : Str)).isSome = false
section
variable {P : Program} {w : World} {K : PySem.W.Frag} {mg : Str → Option Value} {C D f f2 cda cc : Addr} {name qual : Str} {params : Arguments} {scope : Scope} {body : List Stmt} {fd : FuncData} {ps : List Str} {args : List Src} {stores : List (Str × Src)}
/-- the way into such a def: what is left is super's __init__, bound, called, and the stores -/
theorem init_enter (F : SupFn P K D f name qual params body scope cda cc fd) (T : InitTx ps args stores params body scope) (hb : ∀ (u : Value) (us : List Value), us.length = ps.length → bindArgs fd ⟨u :: us, []⟩ = pure ((("self" : Str), u) :: ps.zip us))
    {v : Value} (S : SupC P K mg C D v) (hf : ∀ p ∈ stores, PySem.W.findIn K (.ref C) p.1 = some none)
    {A : Around} {s : Shared} {x t0 : Addr} {us : List Value} {vs : List V} {R : Result → Shared → Prop} (hd : A.depth < recursionLimit) (M : Mod K mg s.heap) (hx : s.heap.get? x = some (excO C t0)) (hxk : K.lookup x = none) (r : Vals vs us) (hl : vs.length = ps.length)
    (sup : ∀ (s₁ : Shared) (env : Env) (e : Expr) (es : List Expr) (sts : List Stmt) (p2 pos : Pos) (pl : Sem Bool) (m : Str → Option Value) (so : Addr), s₁.gens = s.gens → s₁.drawn = s.drawn → s₁.os = s.os → (∀ b o, s.heap.get? b = some o → s₁.heap.get? b = some o) → Mod K mg s₁.heap → s₁.heap.get? x = some (excO C t0) →
      Loaded env ps us x m → s₁.heap.Ns env.locals m → s.heap.objs.size ≤ env.locals → Paired (SrcE ps) args (e :: es) → Paired (StE ps) stores sts → s₁.heap.get? so = some (PySem.W.ks_superObj D x C) →
      wpAny (model P w) (A.deeper env) (getMethod (.ref so) "__init__" pl) (fun fx s₂ => wpAny (model P w) (A.deeper env) (callWith pos fx.1 fx.2 (backTo pos (starEach (e :: es) env)) [])
        (fun _ s₃ => wpAny (model P w) (A.deeper env) (execs sts env) (fun fl s' => fl = .next ∧ R (.ok (.ret .none)) s') (fun _ _ => False) s₃) (fun _ _ => False) s₂) (fun _ _ => False) s₁) :
    codeAny (model P w) A (.call (.ref f) ⟨.ref x :: us, []⟩) R s := by
  have X := M.kin
  obtain ⟨oc, od, doc, pm, an, ct, osl, rfl, lf⟩ := F.lk
  obtain ⟨ar, ha, ea⟩ := T.first
  obtain ⟨p0, p1, p2, p3, p4, e, es, sts, rfl, hargs, hst, hcall⟩ := T.body
  obtain ⟨pl, hpl⟩ := hcall (PySem.W.ksEnv qual scope s.heap.objs.size f (.ref cda) cc)
  have hus : us.length = ps.length := by rw [← Paired.length r, hl]
  have hloc : ∀ y ∈ (("self" : Str), Value.ref x) :: ps.zip us, scope.names.lookup y.1 = some .local := fun y hy => by
    rcases List.mem_cons.mp hy with rfl | hy
    · exact T.slf
    · exact T.par _ (List.of_mem_zip hy).1
  have nd : (((("self" : Str), Value.ref x) :: ps.zip us).map (·.1)).Nodup := by
    rw [List.map_cons, List.map_fst_zip (by omega)]
    exact T.nd
  refine PySem.ks_codeAny_call_defAt hd (X _ _ lf) rfl M.nolimit (PySem.W.codeRec_of X F.cd) rfl (.of_eq (hb _ _ hus)) T.nocell hloc (fun h₀ hn k => ?_) T.co T.gen T.kind
  have M1 : L2.Mod K mg h₀ := mod_keep M k
  have hx1 := k _ _ hx
  have Ld : Loaded (PySem.W.ksEnv qual scope s.heap.objs.size f (.ref cda) cc) ps us x (fun y => ((("self" : Str), Value.ref x) :: ps.zip us).reverse.lookup y) := by
    refine ⟨T.kind, T.slf, fun i nm h => T.par nm (List.mem_of_getElem? h), ?_, fun i nm h => ?_⟩
    · rw [lookup_rev nd]
      simp [List.lookup]
    · rw [lookup_rev nd]
      have ne : nm ≠ "self" := fun z => (List.nodup_cons.mp T.nd).1 (z ▸ List.mem_of_getElem? h)
      have eb : (nm == ("self" : Str)) = false := by simpa using ne
      have q := zip_at (us := us) (List.nodup_cons.mp T.nd).2 hus.symm h
      simp [List.lookup, eb, q]
  show _root_.PySem.wpAt _ _ (.func _ (PySem.W.ksEnv qual scope s.heap.objs.size f (.ref cda) cc)) (execs _ (PySem.W.ksEnv qual scope s.heap.objs.size f (.ref cda) cc)) _ _ _
  refine PySem.ks_wpAt_mono (Q := fun fl s' => fl = .next ∧ R (.ok (.ret .none)) s') (E := fun _ _ => False) ?_ (fun fl s' hh => by rw [hh.1]; exact hh.2) fun _ _ z => z.elim
  refine PySem.ks_wpAt_execs_cons (PySem.ks_wpAt_Expr_any (PySem.ks_wpAt_MethodCall (pl := pl) (sup_obj (s := { s with heap := h₀, toks := _ }) M1 hn F ha ?hv hx1 S.sub S.sg (by decide) T.sup T.clsn ?hka T.kind S.top fun h1 hso k1 => ?_) ?he) ?hi ?hs)
  case hv => rw [ea]; exact Ld.mself
  case hka => rw [ea]; exact T.slf
  case he => exact hpl
  case hs => rfl
  case hi =>
    show ((scope.kind == .module) && _) = false
    rw [T.kind]
    rfl
  have M2 : L2.Mod K mg h1 := mod_keep M1 k1
  refine wpAny_mono (sup { s with heap := h1, toks := _ } _ e es sts p2 p3 _ _ _ rfl rfl rfl (fun b o z => k1 b o (k b o z)) M2 (k1 _ _ hx1) Ld (hn.keeps k1) (Nat.le_refl _) hargs hst hso) (fun fx s2 z => ?_) fun _ _ z => z
  refine wpAny_mono z (fun _ s3 y => ?_) fun _ _ y => y
  exact wpAt_of_wpAny y
theorem clsIn_of (T : OexC K C) : ∃ cd, PySem.W.clsIn K C = some cd := by
  obtain ⟨nm, qn, N, bs, bm, sn, sub, ab, col, dd, k0, k1, k2, k3, k5, hC, hbm⟩ := T.cls
  exact ⟨_, by
    unfold PySem.W.clsIn
    rw [hC]
    all_goals rfl⟩
/-- super's __init__ is ValueError's: one store behind it -/
theorem init_root {f1 : Str} {src1 : Src} (F : SupFn P K D f name qual params body scope cda cc fd) (T : InitTx ps args [(f1, src1)] params body scope) (hb : ∀ (u : Value) (us : List Value), us.length = ps.length → bindArgs fd ⟨u :: us, []⟩ = pure ((("self" : Str), u) :: ps.zip us))
    (S : SupC P K mg C D (.builtin "ValueError.__init__")) (hf : PySem.W.findIn K (.ref C) f1 = some none) (ha : args.length ≤ 100) : InitOk P w K mg C f 1 ps.length (fun vs => [(f1, src1.val vs)]) := by
  intro A s x t0 us vs R hd M hx hxk r hl hq
  refine init_enter F T hb S (fun p hp => by rw [List.mem_singleton.mp hp]; exact hf) (by omega) M hx hxk r hl ?_
  intro s1 env e es sts p2 pos pl m so eg ed eo k M1 hx1 Ld hn hL hargs hst hso
  obtain ⟨cd, hc⟩ := clsIn_of S.o
  have hal : ∀ ws : List Value, Vals (args.map (Src.val vs)) ws → ws.length ≤ sizeLine := fun ws rw' => by
    rw [← Paired.length rw', List.length_map, sizeLine_eq]
    omega
  obtain ⟨nm, qn, N, bs, bm, sn, sub, ab, col, dd, k0, k1, k2, k3, k5, hC, hbm⟩ := S.o.cls
  obtain ⟨hh, g, d, t, os⟩ := s1
  have I : PySem.W.InstAt hh x (excO C t0) C none := ⟨hx1, rfl, rfl, trivial⟩
  have X1 := M1.kin
  have hm := S.sup
  unfold PySem.W.ks_superIn at hm
  rw [hc] at hm
  have hI : PySem.W.Looks (model P w) hh (isInstance (.ref x) (.type "ValueError")) true := I.type.andThen (PySem.W.looks_subIn X1 S.ve)
  refine PySem.W.kxs_getMethod PySem.W.kxs_ValueError hso (PySem.W.looks_opaque X1 S.st) (l₀ := cd.mro) (fun A Q E s kk q => wpAny_bind ((PySem.W.looks_clsIn X1 hc) A _ E s kk (wpAny_pure q))) rfl X1 hm hI (PySem.W.ks_ne X1 I hc) (by decide) ?_
  -- the bound __init__ is called
  have hpush : (hh.push (PySem.W.kxs_mw "ValueError.__init__" x)).get? hh.objs.size = some (PySem.W.kxs_mw "ValueError.__init__" x) := Heap.get?_push_at rfl rfl
  have kp : ∀ b o, hh.get? b = some o → (hh.push (PySem.W.kxs_mw "ValueError.__init__" x)).get? b = some o := fun b o z => Heap.get?_push_of_some _ z
  cases hargs with
  | @cons a0 _ ar _ h0 h1 =>
    have he : starEach (e :: es) env = (false, eval e env) :: starEach es env := by
      cases h0
      · rfl
      · rfl
    have hplain : ∀ {srcs : List Src} {es : List Expr}, Paired (SrcE ps) srcs es → (backTo pos (starEach es env)).any (·.1) = false := fun {srcs es} hp => by
      induction hp with
      | nil => rfl
      | @cons a e srcs es h t ih =>
        have he : starEach (e :: es) env = (false, eval e env) :: starEach es env := by
          cases h
          · rfl
          · rfl
        rw [he]
        show (false || (backTo pos (starEach es env)).any (·.1)) = false
        rw [ih]
        rfl
    have hsp := fun (Q : List Value → Shared → Prop) => srcs_ok (M := model P w) (A := A.deeper env) (E := fun _ _ => False) (pos := pos) (s := ⟨hh.push (PySem.W.kxs_mw "ValueError.__init__" x), g, d, t + 1, os⟩) (Q := Q) Ld r hl.symm (.cons h0 h1) (hn.keeps kp)
    rw [he] at hsp ⊢
    refine PySem.W.kxs_callWith (i := "ValueError.__init__") (x := x) (by show (false || (backTo pos (starEach es env)).any (·.1)) = false; rw [hplain h1]; rfl) ?_
    refine Calls.evalArgs_plain (hsp _ fun ws tk rws => ⟨hpush, ?_⟩)
    have hx2 : (hh.push (PySem.W.kxs_mw "ValueError.__init__" x)).get? x = some (excO C t0) := kp _ _ hx1
    refine wpAny_call (codeAny_of_tree ?_)
    show wpAny _ (A.deeper env).in1 (callAny (.ref hh.objs.size) ⟨ws, []⟩) _ _ _
    simp only [callAny]
    refine wpAny_bind (wpAny_load hpush ?_)
    simp only [PySem.W.kxs_mw, show (Value.type "method-wrapper" == Value.type "method" || Value.type "method-wrapper" == Value.type "builtin_function_or_method" || Value.type "method-wrapper" == Value.type "method-wrapper") = true by decide, if_true]
    refine PySem.W.KFB.if_so (by decide) ?_
    refine wpAny_bind (PySem.W.check_bound_init PySem.F.excBase_ValueError.toExcCallFacts (kp _ _ (X1 _ _ hC)) hx2 rfl ?_)
    refine wpAny_bind (wpAny_pure (wpAny_pure ?_))
    refine ⟨plainId_quiet PySem.F.excBase_ValueError.init.plain _, codeAny_builtin PySem.F.excBase_ValueError.initEntry ?_⟩
    refine PySem.W.exc_init_tree (cls := .ref C) (t0 := t0) (dv := none) (c2 := .none) (c3 := .none) (b4 := .bool false) hx2 (hal ws rws) fun h2 k2 hx3 _ => ?_
    have M3 : L2.Mod K mg h2 := mod_but (mod_keep M1 kp) hxk hx2 (fun _ _ z => by cases z) k2
    have hn3 : h2.Ns env.locals m := ns_but (hn.keeps kp) hx2 (fun _ _ z => by cases z) k2
    cases hst with
    | @cons _ st _ sts' hst ht =>
      cases ht
      cases hst with
      | @mk f src e q1 q2 q3 he1 =>
        have hsw : swapsWith e (some (.Attribute (.Name "self" q1) f1 q2)) q3.line env = pure false := by
          cases he1
          · rfl
          · rfl
        refine wpAny_execs_cons (plainObj_wpAny_Assign_Attribute ?_ hsw)
        refine src_ok (s := ⟨h2, g, d, tk, os⟩) Ld hn3 r hl.symm he1 fun u tk2 ru => ?_
        refine wpAny_Name (wpAny_loadName_local (s := ⟨h2, g, d, tk2, os⟩) Ld.kind Ld.slf hn3 Ld.mself ?_) (by decide)
        refine set_first (s := ⟨h2, g, d, tk2, os⟩) S.o M3 hx3 hf fun h4 tk4 dx k4 hbig hne hx4 hn4 => ?_
        refine wpAny_execs_nil ⟨rfl, ?_⟩
        have all : ∀ b o, b ≠ x → s.heap.get? b = some o → h4.get? b = some o := fun b o hb z => k4 b o hb (k2 b o hb (kp b o (k b o z)))
        have sz : s.heap.objs.size ≤ h2.objs.size := by
          have z1 : hh.objs.size < h2.objs.size := Heap.lt_size (k2 _ _ (fun z => by
            have y := Heap.lt_size hx1
            rw [z] at y
            exact absurd y (Nat.lt_irrefl _)) hpush)
          have z2 : env.locals < hh.objs.size := hn.lt
          exact Nat.le_trans hL (Nat.le_of_lt (Nat.lt_trans z2 z1))
        have fin := hq h4 tk4 dx ⟨all, ⟨_, hx4⟩, Nat.le_trans sz hbig, hne, ⟨_, hn4, relO_put (fs := []) ru fun _ => True.intro⟩, (by decide : 1 ≤ 800)⟩
        have e1 : g = s.gens := eg
        have e2 : d = s.drawn := ed
        have e3 : os = s.os := eo
        rw [e1, e2, e3]
        exact fin
theorem srcs_plain {ps : List Str} {env : Env} {pos : Pos} {srcs : List Src} {es : List Expr} (hp : Paired (SrcE ps) srcs es) : (backTo pos (starEach es env)).any (·.1) = false := by
  induction hp with
  | nil => rfl
  | @cons a e srcs es h t ih =>
    have he : starEach (e :: es) env = (false, eval e env) :: starEach es env := by
      cases h
      · rfl
      · rfl
    rw [he]
    show (false || (backTo pos (starEach es env)).any (·.1)) = false
    rw [ih]
    rfl
/-- super's __init__ is a def of the program's own -/
theorem init_kid {k n2 : Nat} {mk2 : List V → List (Str × V)} (F : SupFn P K D f name qual params body scope cda cc fd) (T : InitTx ps args stores params body scope) (hb : ∀ (u : Value) (us : List Value), us.length = ps.length → bindArgs fd ⟨u :: us, []⟩ = pure ((("self" : Str), u) :: ps.zip us))
    (S : SupC P K mg C D (.ref f2)) (hf : ∀ p ∈ stores, PySem.W.findIn K (.ref C) p.1 = some none) (I2 : InitOk P w K mg C f2 k n2 mk2) (hn2 : args.length = n2) (ty : PySem.W.typeIn K (.ref f2) = some (.type "function")) (fn : PySem.W.fnIn K f2 = true) (hz : ∀ ws, (mk2 ws).length + stores.length ≤ 800) :
    InitOk P w K mg C f (k + 1) ps.length (fun vs => stores.foldl (fun a p => (p.1, p.2.val vs) :: a) (mk2 (args.map (Src.val vs)))) := by
  intro A s x t0 us vs R hd M hx hxk r hl hq
  refine init_enter F T hb S hf (by omega) M hx hxk r hl ?_
  intro s1 env e es sts p2 pos pl m so eg ed eo k0 M1 hx1 Ld hn hL hargs hst hso
  obtain ⟨cd, hc⟩ := clsIn_of S.o
  obtain ⟨hh, g, d, t, os⟩ := s1
  have I : PySem.W.InstAt hh x (excO C t0) C none := ⟨hx1, rfl, rfl, trivial⟩
  have X1 := M1.kin
  have hm := S.sup
  unfold PySem.W.ks_superIn at hm
  rw [hc] at hm
  obtain ⟨of, hof, hofc⟩ : ∃ of, hh.get? f2 = some of ∧ of.cls = .type "function" := by
    have ty' : (K.lookup f2).map (·.cls) = some (.type "function") := ty
    cases z : K.lookup f2 with
    | none =>
      rw [z] at ty'
      cases ty'
    | some of =>
      rw [z] at ty'
      exact ⟨of, X1 _ _ z, Option.some.inj ty'⟩
  refine PySem.ks_wpAny_getMethod_super hso (PySem.W.looks_opaque X1 S.st) (l₀ := cd.mro) (fun A Q E s kk q => wpAny_bind ((PySem.W.looks_clsIn X1 hc) A _ E s kk (wpAny_pure q))) rfl X1 hm hof hofc (PySem.W.ks_ne X1 I hc) (by decide) ?_
  have hpush : (hh.push (PySem.W.methodObj (.ref f2) (.ref x))).get? hh.objs.size = some (PySem.W.methodObj (.ref f2) (.ref x)) := Heap.get?_push_at rfl rfl
  have kp : ∀ b o, hh.get? b = some o → (hh.push (PySem.W.methodObj (.ref f2) (.ref x))).get? b = some o := fun b o z => Heap.get?_push_of_some _ z
  have M2 : L2.Mod K mg (hh.push (PySem.W.methodObj (.ref f2) (.ref x))) := mod_keep M1 kp
  have hx2 := kp _ _ hx1
  have hn2' := hn.keeps kp
  have hsp := fun (Q : List Value → Shared → Prop) => srcs_ok (M := model P w) (A := A.deeper env) (E := fun _ _ => False) (pos := pos) (s := ⟨hh.push (PySem.W.methodObj (.ref f2) (.ref x)), g, d, t + 1, os⟩) (Q := Q) Ld r hl.symm hargs hn2'
  have hpl := srcs_plain (env := env) (pos := pos) hargs
  have he : starEach (e :: es) env = (false, eval e env) :: starEach es env := by
    cases hargs with
    | cons h0 h1 =>
      cases h0
      · rfl
      · rfl
  rw [he] at hsp hpl ⊢
  have hpl2 : ((backTo pos ((false, eval e env) :: starEach es env)).any (·.1) || ([] : List (Option Str × Sem Value)).any (·.1.isNone)) = false := by
    rw [hpl]
    rfl
  refine PySem.W.callWith_of (P := PySem.W.MethP K hh.objs.size f2 (.ref x)) hpl2 (PySem.W.keeps_M fn) ?_
  refine Calls.evalArgs_plain (hsp _ fun ws tk rws => ⟨⟨hpush, M2.kin⟩, ?_⟩)
  show wpAny _ _ (call (.ref hh.objs.size) ws) _ _ _
  refine wpAny_call (PySem.ks_codeAny_call_bound hpush ?_)
  refine I2 (A.deeper env) ⟨hh.push (PySem.W.methodObj (.ref f2) (.ref x)), g, d, tk, os⟩ x t0 ws (args.map (Src.val vs)) _ (by show A.depth + 1 + 3 * k < _; omega) M2 hx2 hxk rws (by rw [List.length_map, hn2]) fun h3 tk3 dx D3 => ?_
  show wpAny _ _ (execs sts env) _ _ _
  refine stores_ok (h₀ := hh.push (PySem.W.methodObj (.ref f2) (.ref x))) (s := ⟨h3, g, d, tk3, os⟩) (fs := mk2 (args.map (Src.val vs))) S.o Ld r hl.symm hx2 hxk hn2' M2 hst hf D3 (hz _) fun h4 tk4 D4 => ⟨rfl, ?_⟩
  have sz : s.heap.objs.size ≤ (hh.push (PySem.W.methodObj (.ref f2) (.ref x))).objs.size := by
    have z1 : hh.objs.size < (hh.push (PySem.W.methodObj (.ref f2) (.ref x))).objs.size := Heap.lt_size hpush
    have z2 : env.locals < hh.objs.size := hn.lt
    exact Nat.le_trans hL (Nat.le_of_lt (Nat.lt_trans z2 z1))
  have fin := hq h4 tk4 dx ⟨fun b o hb z => D4.keep b o hb (kp b o (k0 b o z)), D4.obj, Nat.le_trans sz D4.big, D4.ne, D4.ns, D4.few⟩
  have e1 : g = s.gens := eg
  have e2 : d = s.drawn := ed
  have e3 : os = s.os := eo
  show R _ ⟨h4, g, d, tk4, os⟩
  rw [e1, e2, e3]
  exact fin
end
/-! ### the error is made -/
/-- x(..) makes an error of the class at C -/
structure ErrOk (P : Program) (w : World) (K : PySem.W.Frag) (mg : Str → Option Value) (x : Str) (C : Addr) (k n : Nat) (mk : List V → List (Str × V)) : Prop where
  o : OexC K C
  g : mg x = some (.ref C)
  i : ∃ fI, PySem.W.findIn K (.ref C) "__init__" = some (some (.ref fI)) ∧ PySem.W.typeIn K (.ref fI) = some (.type "function") ∧ InitOk P w K mg C fI k n mk
theorem pmk_err {X : Cx} {x : Str} {C : Addr} {k n : Nat} {mk : List V → List (Str × V)} {e : Expr} {es : List Expr} {ta : TA} {p pos : Pos} (T : ErrOk X.prog X.w X.K X.mg x C k n mk) (hr : X.A.depth + 3 * k + 1 < recursionLimit) (hg : Gl X x) (ha : PA X (e :: es) ta)
    (hdb : (x == ("__debug__" : Str)) = false := by decide) (he : starEach (e :: es) X.env = (false, eval e X.env) :: starEach es X.env := by rfl) (hpl : (backTo pos (starEach es X.env)).any (·.1) = false := by rfl) :
    L2N.PMk X (.Call (.Name x p) (e :: es) [] pos) (fun σ H Q => ta σ H fun vs H1 => vs.length = n ∧ vs.length ≤ 100 ∧ ∀ d, H1 d = none → Q (.ref C) (some d) (upd H1 d (.xd (mk vs)))) := by
  intro pins s σ H Q I h
  obtain ⟨fI, iC, tI, I0⟩ := T.i
  obtain ⟨nm, qn, N, bs, bm, sn, sub, ab, col, dd, k0, k1, k2, k3, k5, hC, hbm⟩ := T.o.cls
  refine wpAny_Call_Name_kw (ld_glob I hg T.g ?_ hdb)
  refine PySem.W.callWith_K (h₀ := X.base) I.ok.mod.kin T.o.kC (thn (ha.run pos pins s σ H _ I h) fun us s1 hh => ?_) he hpl
  obtain ⟨vs, H1, I1, r1, hn, hz, q1⟩ := hh
  refine ⟨I1.kIn, ?_⟩
  show wpAny _ _ (call (.ref C) us) _ _ _
  obtain ⟨hp, g, dr, tk, os⟩ := s1
  have Mb : L2.Mod X.K X.mg hp := mod_keep I1.ok.mod I1.bk
  have kk : ∀ b o, hp.get? b = some o → ((hp.push (PySem.W.kdv_tup us)).push (excO C hp.objs.size)).get? b = some o := fun b o z => Heap.get?_push_of_some _ (Heap.get?_push_of_some _ z)
  have hget : ((hp.push (PySem.W.kdv_tup us)).push (excO C hp.objs.size)).get? (hp.objs.size + 1) = some (excO C hp.objs.size) := by heap_get
  have hsz2 : hp.objs.size + 1 < ((hp.push (PySem.W.kdv_tup us)).push (excO C hp.objs.size)).objs.size := Heap.lt_size hget
  have hnx : X.K.lookup (hp.objs.size + 1) = none := by
    cases z : X.K.lookup (hp.objs.size + 1) with
    | none => rfl
    | some o =>
      have y : hp.get? (hp.objs.size + 1) = some o := Mb.kin _ _ z
      exact absurd (Nat.lt_of_succ_lt (Heap.lt_size y)) (Nat.lt_irrefl _)
  have hus : us.length ≤ sizeLine := by
    rw [← Paired.length r1, sizeLine_eq]
    omega
  refine wpAny_call (PySem.HandSPX.call_own PySem.F.excBase_ValueError (fun Y => PySem.HandSPX.refsVE_contains Y bm hbm) (Mb.kin _ _ hC) (PySem.W.looks_findIn Mb.kin iC) (fun self => PySem.W.bind_fn Mb.kin self tI) hus ?_)
  refine I0 _ ⟨(hp.push (PySem.W.kdv_tup us)).push (excO C hp.objs.size), g, dr, tk, os⟩ (hp.objs.size + 1) hp.objs.size us vs _ (by rw [make_depth]; omega) (mod_keep Mb kk) hget hnx r1 hn fun h' tk' dx D => ?_
  refine ⟨rfl, ?_⟩
  obtain ⟨t1, hoe⟩ := D.obj
  obtain ⟨mA, hns, rel⟩ := D.ns
  obtain ⟨G', g1, g2⟩ := restrict h' fun b => decide (b ≠ hp.objs.size + 1)
  have gk : ∀ b, b ≠ hp.objs.size + 1 → G'.get? b = h'.get? b := fun b hb => g1 b (decide_eq_true hb)
  have ge : G'.get? (hp.objs.size + 1) = none := g2 _ (by simp)
  have nb : ∀ {b o}, hp.get? b = some o → b ≠ hp.objs.size + 1 := fun {b o} z => Nat.ne_of_lt (Nat.lt_succ_of_lt (Heap.lt_size z))
  have old : ∀ b o, hp.get? b = some o → G'.get? b = some o := fun b o z => (gk b (nb z)).trans (D.keep b o (nb z) (kk b o z))
  have hbig : hp.objs.size ≤ dx := Nat.le_trans (Nat.le_of_lt (Nat.lt_trans (Nat.lt_succ_self _) hsz2)) D.big
  have ob : ObjOk X.prog X.w (upd H1 dx (.xd (mk vs))) G' dx (.xd (mk vs)) := ⟨mA, hns.at (fun o z => (gk dx D.ne).trans z), rel⟩
  have J : Inv X pins σ (upd H1 dx (.xd (mk vs))) ⟨G', g, dr, tk', os⟩ := I1.laid (t' := tk') old hbig ob
  refine ⟨hp.objs.size + 1, _, _, ⟨G', g, dr, tk', os⟩, _, .ref C, some dx, rfl, J, fun b o z => ?_, ge, hoe, ⟨rfl, rfl, fun vs hv => by cases hv; rfl⟩, rfl, rfl, ?_, rfl, I1.bare, raises_own T.o.exC T.o.tyC, q1 dx (I1.hok.fresh hbig)⟩
  · have z' : G'.get? b = some o := z
    by_cases hb : b = hp.objs.size + 1
    · rw [hb, ge] at z'
      cases z'
    · exact (gk b hb).symm.trans z'
  · rw [upd_ne D.ne.symm]
    exact I1.hok.fresh (Nat.le_succ _)
end Z

/-! Z1: readings that compute, and their rules -/
namespace Z
open PySem PySem.Spec PyProof.Rows L2
abbrev St := L2.St
/-! ### the context of a body -/
structure Cz (m : Bool) (X : Cx) (W : WX) (k : Nat) : Prop where
  md : (m = true ∧ X.calm = true ∧ Room k X.A) ∨ (m = false ∧ L2H.HotC X ∧ L2H.RoomH k X.A)
  tk : L2N.Takes X W
  own : PassesOwn (model X.prog X.w) X.A X.env X.xe
  stk : X.stack = X.env :: X.outer
  frm : X.env.frame = some X.env.locals
theorem Cz.mono {m : Bool} {X : Cx} {W : WX} {j k : Nat} (c : Cz m X W k) (h : j ≤ k) : Cz m X W j := by
  refine ⟨?_, c.tk, c.own, c.stk, c.frm⟩
  rcases c.md with ⟨a, b, r⟩ | ⟨a, b, r⟩
  · exact .inl ⟨a, b, r.mono h⟩
  · exact .inr ⟨a, b, r.mono h⟩
theorem Cz.calm {X : Cx} {W : WX} {k : Nat} (c : Cz true X W k) : X.calm = true := by
  rcases c.md with ⟨_, b, _⟩ | ⟨a, _⟩
  · exact b
  · cases a
theorem Cz.room {X : Cx} {W : WX} {k : Nat} (c : Cz true X W k) : Room k X.A := by
  rcases c.md with ⟨_, _, r⟩ | ⟨a, _⟩
  · exact r
  · cases a
theorem Cz.hot {X : Cx} {W : WX} {k : Nat} (c : Cz false X W k) : L2H.HotC X ∧ L2H.RoomH k X.A := by
  rcases c.md with ⟨a, _⟩ | ⟨_, b, r⟩
  · cases a
  · exact ⟨b, r⟩
theorem Cz.dp {m : Bool} {X : Cx} {W : WX} {k : Nat} (c : Cz m X W k) : X.A.depth + 3 * k + 5 < recursionLimit := by
  rcases c.md with ⟨_, _, r⟩ | ⟨_, _, r⟩
  · exact r.dp
  · exact r.dp
theorem Cz.un {m : Bool} {X : Cx} {W : WX} {k : Nat} (c : Cz m X W k) : X.A.units + 16 * k + 200 < cLine := by
  rcases c.md with ⟨_, _, r⟩ | ⟨_, _, r⟩
  · exact r.un
  · exact r.un
theorem Cz.hu {m : Bool} {X : Cx} {W : WX} {k : Nat} (c : Cz m X W k) : X.A.units + 64 < cLine := by
  have := c.un
  omega
/-- a def's promise, in quiet (true) or while an error is handled (false) -/
def Fn (m : Bool) (P : Program) (w : World) (K : PySem.W.Frag) (mg : Str → Option Value) (base : Heap) (k : Nat) (f : Addr) (fd : FuncData) (ps : List Str) (sp : Sp) : Prop := match m with
  | true => FnOk P w K mg base (L2N.CX P w) k f fd ps sp
  | false => L2H.FnH P w K mg base (L2N.CX P w) k f fd ps sp
theorem Fn.mono {m : Bool} {P : Program} {w : World} {K : PySem.W.Frag} {mg : Str → Option Value} {base : Heap} {j k : Nat} {f : Addr} {fd : FuncData} {ps : List Str} {sp : Sp} (F : Fn m P w K mg base j f fd ps sp) (h : j ≤ k) : Fn m P w K mg base k f fd ps sp := by
  cases m with
  | true => exact FnOk.mono F h
  | false =>
    have F' : L2H.FnH P w K mg base (L2N.CX P w) j f fd ps sp := F
    exact ⟨F'.len, fun A o s H a us vs Q E p r => F'.run A o s H a us vs Q E p (r.mono h)⟩
/-- the context of a def's body -/
def bodyCx (m : Bool) (P : Program) (w : World) (K : PySem.W.Frag) (mg : Str → Option Value) (base : Heap) (N : List Str) (qual : Str) (scope : Scope) (f : Addr) (cd : Value) (A : Around) (outer : List Env) (s : Shared) (H : Hp) (E : XK) (pn : List (Addr × Obj)) : Cx :=
  { cxOf (L2N.CX P w) P w K mg base N qual scope f cd A outer s H E with calm := m, pn := pn }
section
variable {P : Program} {w : World} {K : PySem.W.Frag} {mg : Str → Option Value} {base : Heap}
/-- THE RULE: a def by its body -/
theorem fn_mk {m : Bool} {x qual : Str} {params : Arguments} {body : List Stmt} {scope : Scope} {dvs : List V} {kws : List (Str × V)} {f : Addr} {fd : FuncData} {N ps : List Str} {k : Nat} {sp : Sp} (F : FunD K x qual params body scope dvs kws f fd) (S : FnScope N ps scope)
    (len : ∀ vs H Q E, sp vs H Q E → vs.length = ps.length)
    (hbody : ∀ (cdv : Value) (A : Around) (outer : List Env) (s : Shared) (H : Hp) (vs : List V) (Q : VK) (E : XK) (pn : List (Addr × Obj)), Cz m (bodyCx m P w K mg base N qual scope f cdv A outer s H E pn) (fun cls d _ H => E cls d H) k → sp vs H Q E →
      ∃ t, PSs (bodyCx m P w K mg base N qual scope f cdv A outer s H E pn) body t ∧ t { nx := fun _ H' => Q .non H', rt := Q } (start N vs) H) : Fn m P w K mg base (k + 1) f fd ps sp := by
  obtain ⟨oc, od, dV, kV, doc, pm, an, cdv, ct, osl, rfl, lk, hcd, _, _⟩ := F.ex
  cases m with
  | true =>
    refine fn_of lk hcd S len fun A outer s H vs Q E hr hsp => ?_
    exact hbody cdv A outer s H vs Q E [] ⟨.inl ⟨rfl, rfl, hr⟩, L2N.takes_of rfl rfl rfl rfl, passes_of rfl, rfl, rfl⟩ hsp
  | false =>
    refine L2H.fn_ofH lk hcd S len fun A outer s H vs Q E p hot hr hsp => ?_
    exact hbody cdv A outer s H vs Q E [p] ⟨.inr ⟨rfl, ⟨p, hot, List.mem_singleton.mpr rfl⟩, hr⟩, L2N.takes_of rfl rfl rfl rfl, passes_of rfl, rfl, rfl⟩ hsp
end
/-- a def that is called by its module name, without defaults -/
structure GFn (m : Bool) (P : Program) (w : World) (K : PySem.W.Frag) (mg : Str → Option Value) (base : Heap) (k : Nat) (x : Str) (ps : List Str) (sp : Sp) : Prop where
  ex : ∃ f fd, Fn m P w K mg base k f fd ps sp ∧ mg x = some (.ref f) ∧ PySem.W.keepIn K (.ref f) = true ∧ Binds K fd ps []
/-! ### readings -/
def zvO : Option V → (V → Prop) → Prop
  | some v, Q => Q v
  | none, _ => False
def zv : St → Nat → (V → Prop) → Prop
  | [], _, _ => False
  | o :: _, 0, Q => zvO o Q
  | _ :: r, n + 1, Q => zv r n Q
theorem zvO_iff {o : Option V} {Q : V → Prop} : zvO o Q ↔ ∃ v, o = some v ∧ Q v := by
  cases o with
  | none => simp [zvO]
  | some v => simp [zvO]
theorem zv_iff : ∀ {σ : St} {i : Nat} {Q : V → Prop}, zv σ i Q ↔ ∃ v, σ[i]? = some (some v) ∧ Q v
  | [], i, Q => by simp [zv]
  | o :: r, 0, Q => by
    show zvO o Q ↔ _
    rw [zvO_iff]
    simp
  | o :: r, n + 1, Q => by
    show zv r n Q ↔ _
    rw [zv_iff]
    simp
def zVar (i : Nat) : TE := fun σ H Q => zv σ i fun v => Q v H
theorem zVar_eq (i : Nat) : zVar i = tVar i := by
  funext σ H Q
  exact propext zv_iff
def zs : St → Nat → V → (St → Prop) → Prop
  | [], _, _, k => k []
  | _ :: r, 0, v, k => k (some v :: r)
  | o :: r, n + 1, v, k => zs r n v fun r' => k (o :: r')
theorem zs_eq : ∀ {σ : St} {i : Nat} {v : V} {k : St → Prop}, zs σ i v k = k (σ.set i (some v))
  | [], _, _, _ => rfl
  | _ :: _, 0, _, _ => rfl
  | o :: r, n + 1, v, k => by
    show zs r n v _ = _
    rw [zs_eq]
    rfl
def zN (i : Nat) : TG := fun v σ H Q => zs σ i v fun σ' => Q σ' H
theorem zN_eq (i : Nat) : zN i = gName i := by
  funext v σ H Q
  exact zs_eq
def onB (Q : Bool → Hp → Prop) (x : V) (H : Hp) : Prop := match x with
  | .bl c => Q c H
  | _ => False
theorem onB_eq {Q : Bool → Hp → Prop} {x : V} {H : Hp} : onB Q x H = ∃ c, x = .bl c ∧ Q c H := by
  refine propext ⟨fun h => ?_, fun ⟨c, e, q⟩ => by rw [e]; exact q⟩
  cases x with
  | bl c => exact ⟨c, rfl, h⟩
  | _ => exact h.elim
def zTest (t : TE) : TT := fun σ H Q => t σ H (onB Q)
theorem zTest_eq (t : TE) : zTest t = tTest t := by
  funext σ H Q
  exact congrArg (t σ H) (funext fun x => funext fun H1 => onB_eq)
def zAnd (t u : TT) : TT := fun σ H Q => t σ H fun c H1 => ZIf (c = true) (u σ H1 Q) (Q false H1)
def zOr (t u : TT) : TT := fun σ H Q => t σ H fun c H1 => ZIf (c = true) (Q true H1) (u σ H1 Q)
theorem zAnd_eq (t u : TT) : zAnd t u = tAnd t u := by
  funext σ H Q
  exact congrArg (t σ H) (funext fun c => funext fun H1 => zif_iff)
theorem zOr_eq (t u : TT) : zOr t u = tOr t u := by
  funext σ H Q
  exact congrArg (t σ H) (funext fun c => funext fun H1 => zif_iff)
def zAndV (ta tb : TE) : TE := fun σ H Q => ta σ H (onB fun c H1 => ZIf (c = true) (tb σ H1 Q) (Q (.bl false) H1))
def zOrV (ta tb : TE) : TE := fun σ H Q => ta σ H (onB fun c H1 => ZIf (c = true) (Q (.bl true) H1) (tb σ H1 Q))
def zNotV (ta : TE) : TE := fun σ H Q => ta σ H (onB fun c H1 => Q (.bl (!c)) H1)
theorem zAndV_eq (ta tb : TE) : zAndV ta tb = tAndV ta tb := by
  funext σ H Q
  refine congrArg (ta σ H) (funext fun x => funext fun H1 => ?_)
  rw [onB_eq]
  exact congrArg Exists (funext fun c => congrArg (And _) zif_iff)
theorem zOrV_eq (ta tb : TE) : zOrV ta tb = tOrV ta tb := by
  funext σ H Q
  refine congrArg (ta σ H) (funext fun x => funext fun H1 => ?_)
  rw [onB_eq]
  exact congrArg Exists (funext fun c => congrArg (And _) zif_iff)
theorem zNotV_eq (ta : TE) : zNotV ta = tNotV ta := by
  funext σ H Q
  exact congrArg (ta σ H) (funext fun x => funext fun H1 => onB_eq)
def zIfE (c : TT) (ta tb : TE) : TE := fun σ H Q => c σ H fun b H1 => ZIf (b = true) (ta σ H1 Q) (tb σ H1 Q)
theorem zIfE_eq (c : TT) (ta tb : TE) : zIfE c ta tb = tIf c ta tb := by
  funext σ H Q
  exact congrArg (c σ H) (funext fun b => funext fun H1 => zif_iff)
def zIfS (c : TT) (t u : TS) : TS := fun D σ H => c σ H fun b H1 => ZIf (b = true) (t D σ H1) (u D σ H1)
theorem zIfS_eq (c : TT) (t u : TS) : zIfS c t u = tIfS c t u := by
  funext D σ H
  exact congrArg (c σ H) (funext fun b => funext fun H1 => zif_iff)
theorem znew_eq {H : Hp} {o : HO} {Q : VK} : ZNew H o (fun p H' => Q (.ref p) H') = ∀ p, H p = none → Q (.ref p) (upd H p o) := propext ⟨fun h => h.out, fun h => ⟨h⟩⟩
theorem zside_eq {a b : Prop} : ZSide a b = (a ∧ b) := propext ⟨fun h => ⟨h.c, h.a⟩, fun h => ⟨h.1, h.2⟩⟩
def zLst (t : TA) : TE := fun σ H Q => t σ H fun xs H1 => ZSide (xs.length ≤ sizeLine) (ZNew H1 (.lst xs) fun p H' => Q (.ref p) H')
def zTup (t : TA) : TE := fun σ H Q => t σ H fun xs H1 => ZSide (xs.length ≤ sizeLine) (ZNew H1 (.tup xs) fun p H' => Q (.ref p) H')
theorem zLst_eq (t : TA) : zLst t = tLst t := by
  funext σ H Q
  refine congrArg (t σ H) (funext fun xs => funext fun H1 => ?_)
  rw [zside_eq, znew_eq]
theorem zTup_eq (t : TA) : zTup t = tTup t := by
  funext σ H Q
  refine congrArg (t σ H) (funext fun xs => funext fun H1 => ?_)
  rw [zside_eq, znew_eq]
def zPart (t : TE) : TO := fun σ H Q => t σ H fun x H1 => match x with
  | .int i => Q (some i) H1
  | _ => False
theorem zPart_eq (t : TE) : zPart t = tPart t := by
  funext σ H Q
  refine congrArg (t σ H) (funext fun x => funext fun H1 => propext ⟨fun h => ?_, fun ⟨i, e, q⟩ => by rw [e]; exact q⟩)
  cases x with
  | int i => exact ⟨i, rfl, h⟩
  | _ => exact h.elim
def zCall (sp : Sp) (W : WX) (t : TA) : TE := fun σ H Q => t σ H fun vs H1 => ZCall sp vs H1 Q (fun cls d H' => W cls d σ H')
theorem zCall_eq (sp : Sp) (W : WX) (t : TA) : zCall sp W t = tCallS sp (WE W) t := by
  funext σ H Q
  exact congrArg (t σ H) (funext fun vs => funext fun H1 => propext ⟨fun h => h.out, fun h => ⟨h⟩⟩)
/-- truth of a value -/
def zTru (K : PySem.W.Frag) (x : V) (H : Hp) (Q : Bool → Hp → Prop) : Prop := match x with
  | .non => Q false H
  | .bl b => Q b H
  | .int i => Q (i != 0) H
  | .str y => ZSide (y.length ≤ sizeLine) (Q ((y.length : Int) != 0) H)
  | .ref p => ZSq K H p fun _ xs => Q (!xs.isEmpty) H
  | _ => False
def zT (K : PySem.W.Frag) (t : TE) : TT := fun σ H Q => t σ H fun x H1 => zTru K x H1 Q
/-! ### operators -/
def zAdd : R2 := fun x y H Q => match x, y with
  | .int i, .int j => Q (.int (i + j)) H
  | .str a, .str b => ZSide (a.length + b.length ≤ sizeLine) (Q (.str (a ++ b)) H)
  | .ref a, .ref b => ZGet H a fun o => match o with
    | .lst xs => ZGet H b fun u => match u with
      | .lst zs => ZSide (xs.length + zs.length ≤ sizeLine) (ZNew H (.lst (xs ++ zs)) fun p H' => Q (.ref p) H')
      | _ => False
    | _ => False
  | _, _ => False
def zInt (g : Int → Int → V) : R2 := fun x y H Q => match x, y with
  | .int i, .int j => Q (g i j) H
  | _, _ => False
def zIntC (C : Int → Int → Prop) (g : Int → Int → V) : R2 := fun x y H Q => match x, y with
  | .int i, .int j => ZSide (C i j) (Q (g i j) H)
  | _, _ => False
theorem OpR.imp {X : Cx} {f : Value → Value → Sem Value} {r r' : R2} (h : OpR X f r) (i : ∀ x y H Q, r' x y H Q → r x y H Q) : OpR X f r' := fun pins s σ H x y v u Q I rx ry q => h pins s σ H x y v u Q I rx ry (i x y H Q q)
theorem zInt_imp {g : Int → Int → V} : ∀ x y H Q, zInt g x y H Q → rI0 g x y H Q := fun x y H Q q => by
  cases x with
  | int i => cases y with
    | int j => exact ⟨i, j, rfl, rfl, q⟩
    | _ => exact q.elim
  | _ => exact q.elim
theorem zIntC_imp {C : Int → Int → Prop} {g : Int → Int → V} : ∀ x y H Q, zIntC C g x y H Q → rI C g x y H Q := fun x y H Q q => by
  cases x with
  | int i => cases y with
    | int j => exact ⟨i, j, rfl, rfl, ZSide.c q, ZSide.a q⟩
    | _ => exact q.elim
  | _ => exact q.elim
theorem zAdd_ok {X : Cx} : OpR X (binaryOp .Add) zAdd := OpR.imp (op_add.or (op_add_str.or op_cat)) fun x y H Q q => by
  cases x with
  | int i => cases y with
    | int j => exact .inl ⟨i, j, rfl, rfl, q⟩
    | _ => exact q.elim
  | str a => cases y with
    | str b => exact .inr (.inl ⟨a, b, rfl, rfl, ZSide.c q, ZSide.a q⟩)
    | _ => exact q.elim
  | ref a => cases y with
    | ref b =>
      obtain ⟨o, e1, q⟩ := ZGet.out q
      cases o with
      | lst xs =>
        obtain ⟨u, e2, q⟩ := ZGet.out q
        cases u with
        | lst zs => exact .inr (.inr ⟨a, b, xs, zs, rfl, rfl, e1, e2, ZSide.c q, (ZSide.a q).out⟩)
        | _ => exact q.elim
      | _ => exact q.elim
    | _ => exact q.elim
  | _ => exact q.elim
/-- == of two scalars -/
def zEqV : V → V → (Bool → Prop) → Prop := fun x y Q => match x, y with
  | .int i, .int j => Q (decide (i = j))
  | .str a, .str b => Q (decide (a = b))
  | .bl a, .bl b => Q (decide (a = b))
  | .non, .non => Q true
  | .int _, .str _ => Q false
  | .str _, .int _ => Q false
  | .non, .int _ => Q false
  | .int _, .non => Q false
  | _, _ => False
def zEq : R2 := fun x y H Q => zEqV x y fun b => Q (.bl b) H
def zNe : R2 := fun x y H Q => zEqV x y fun b => Q (.bl (!b)) H
theorem zEqV_ok {x y : V} {Q : Bool → Prop} (h : zEqV x y Q) : scal x y = true ∧ Q (decide (x = y)) := by
  cases x <;> cases y <;> first | exact h.elim | skip
  all_goals first
    | (refine ⟨rfl, ?_⟩; simpa [zEqV] using h)
theorem zEq_ok {X : Cx} : OpR X (compareOp .Eq) zEq := OpR.imp op_eq fun _ _ _ _ q => zEqV_ok q
theorem zNe_ok {X : Cx} : OpR X (compareOp .NotEq) zNe := OpR.imp op_ne fun _ _ _ _ q => zEqV_ok q
def zLt : R2 := zInt fun i j => .bl (decide (i < j))
def zLe : R2 := zInt fun i j => .bl (decide (i ≤ j))
def zGt : R2 := zInt fun i j => .bl (decide (j < i))
def zGe : R2 := zInt fun i j => .bl (decide (j ≤ i))
def zIsN : R2 := fun x y H Q => match y with
  | .non => match x with
    | .non => Q (.bl true) H
    | _ => Q (.bl false) H
  | _ => False
def zIsNN : R2 := fun x y H Q => match y with
  | .non => match x with
    | .non => Q (.bl false) H
    | _ => Q (.bl true) H
  | _ => False
theorem zIsN_ok {X : Cx} : OpR X (compareOp .Is) zIsN := OpR.imp op_isN fun x y H Q q => by
  cases y with
  | non => cases x <;> exact ⟨rfl, q⟩
  | _ => exact q.elim
theorem zIsNN_ok {X : Cx} : OpR X (compareOp .IsNot) zIsNN := OpR.imp op_notN fun x y H Q q => by
  cases y with
  | non => cases x <;> exact ⟨rfl, q⟩
  | _ => exact q.elim
/-- there is an x with P x, and R x -/
structure ZEx {α : Type} (P : α → Prop) (R : α → Prop) : Prop where
  out : ∃ x, P x ∧ R x
/-- c in z, c one sign -/
def zInC (neg : Bool) : R2 := fun x y H Q => match x, y with
  | .str a, .str z => ZEx (fun c : Nat => a = ⟨#[c]⟩) fun c => Q (.bl (match neg with | true => !decide (c ∈ z.cps.toList) | false => decide (c ∈ z.cps.toList))) H
  | _, _ => False
/-- x in a list or tuple of flat values -/
def zInL (K : PySem.W.Frag) (neg : Bool) : R2 := fun x y H Q => match y with
  | .ref p => ZSq K H p fun _ xs => ZSide (flatV x = true ∧ xs.all flatV = true) (Q (.bl (match neg with | true => !inV x xs | false => inV x xs)) H)
  | _ => False
theorem zInC_ok {X : Cx} : OpR X (compareOp .In) (zInC false) := OpR.imp op_in_sign fun x y H Q q => by
  cases x with
  | str a => cases y with
    | str z =>
      obtain ⟨c, e, q⟩ := ZEx.out q
      rw [e]
      exact ⟨c, z, rfl, rfl, q⟩
    | _ => exact q.elim
  | _ => exact q.elim
theorem zNotInC_ok {X : Cx} : OpR X (compareOp .NotIn) (zInC true) := OpR.imp op_notIn_sign fun x y H Q q => by
  cases x with
  | str a => cases y with
    | str z =>
      obtain ⟨c, e, q⟩ := ZEx.out q
      rw [e]
      exact ⟨c, z, rfl, rfl, q⟩
    | _ => exact q.elim
  | _ => exact q.elim
theorem zsq_or {K : PySem.W.Frag} {H : Hp} {a : Addr} {R : Bool → List V → Prop} (h : ZSq K H a R) : ∃ xs, (SqL K H a xs ∧ R true xs) ∨ (SqT K H a xs ∧ R false xs) := by
  obtain ⟨b, xs, q, r⟩ := h.out
  cases b with
  | true => exact ⟨xs, .inl ⟨q, r⟩⟩
  | false => exact ⟨xs, .inr ⟨q, r⟩⟩
theorem zInL_ok {X : Cx} : OpR X (compareOp .In) (zInL X.K false) := OpR.imp op_in_seq fun x y H Q q => by
  cases y with
  | ref p =>
    obtain ⟨xs, ⟨a, q⟩ | ⟨a, q⟩⟩ := zsq_or q
    · exact ⟨p, xs, rfl, .inl a, q.c.1, q.c.2, q.a⟩
    · exact ⟨p, xs, rfl, .inr a, q.c.1, q.c.2, q.a⟩
  | _ => exact q.elim
theorem zNotInL_ok {X : Cx} : OpR X (compareOp .NotIn) (zInL X.K true) := OpR.imp op_notIn_seq fun x y H Q q => by
  cases y with
  | ref p =>
    obtain ⟨xs, ⟨a, q⟩ | ⟨a, q⟩⟩ := zsq_or q
    · exact ⟨p, xs, rfl, .inl a, q.c.1, q.c.2, q.a⟩
    · exact ⟨p, xs, rfl, .inr a, q.c.1, q.c.2, q.a⟩
  | _ => exact q.elim
def zNeg : V → Hp → VK → Prop := fun x H Q => match x with
  | .int i => Q (.int (-i)) H
  | _ => False
theorem zNeg_ok {X : Cx} : UnR X (unaryOp .USub) zNeg := fun pins s σ H x v Q I r q => un_neg pins s σ H x v Q I r (by
  cases x with
  | int i => exact ⟨i, rfl, q⟩
  | _ => exact q.elim)
/-! ### items -/
def zIx (K : PySem.W.Frag) : R2 := fun x y H Q => match x, y with
  | .ref p, .int i => ZSq K H p fun _ xs => ZAt xs i fun v => Q v H
  | .str z, .int i => ZSide (z.length ≤ sizeLine) (ZAt z.cps.toList i fun c => Q (.str ⟨#[c]⟩) H)
  | _, _ => False
theorem zIx_ok {X : Cx} : IxR X (zIx X.K) := fun value slice pins s σ H x y v u Q I rx ry q hs => ix_seq value slice pins s σ H x y v u Q I rx ry (by
  cases x with
  | ref p => cases y with
    | int i =>
      obtain ⟨xs, ⟨a, q⟩ | ⟨a, q⟩⟩ := zsq_or q
      · obtain ⟨v, e, q⟩ := q.out
        exact .inl ⟨p, xs, i, v, rfl, rfl, a, e, q⟩
      · obtain ⟨v, e, q⟩ := q.out
        exact .inr (.inl ⟨p, xs, i, v, rfl, rfl, a, e, q⟩)
    | _ => exact q.elim
  | str z => cases y with
    | int i =>
      obtain ⟨v, e, q2⟩ := (ZSide.a q).out
      exact .inr (.inr ⟨z, i, v, rfl, rfl, ZSide.c q, e, q2⟩)
    | _ => exact q.elim
  | _ => exact q.elim) hs
def zSlc (K : PySem.W.Frag) : V → Option Int → Option Int → Hp → VK → Prop := fun x lo hi H Q => match x with
  | .str z => ZSide (z.length ≤ sizeLine) (Q (.str (cutS z lo hi)) H)
  | .ref a => ZSq K H a fun b xs => match b with
    | true => ZNew H (.lst (cutV xs lo hi)) fun p H' => Q (.ref p) H'
    | false => ZSide (¬ (HT.sIx xs.length 0 lo = 0 ∧ HT.sIx xs.length xs.length hi = xs.length)) (ZNew H (.tup (cutV xs lo hi)) fun p H' => Q (.ref p) H')
  | _ => False
theorem zSlc_ok {X : Cx} : L2.SlR X (zSlc X.K) := fun pins s σ H x v vl vu lo hi sl Q I rx hs pl pu q => (L2.SlR.or sl_list (L2.SlR.or sl_str sl_tup)) pins s σ H x v vl vu lo hi sl Q I rx hs pl pu (by
  cases x with
  | str z => exact .inr (.inl ⟨z, rfl, ZSide.c q, ZSide.a q⟩)
  | ref a =>
    obtain ⟨xs, ⟨e, q⟩ | ⟨e, q⟩⟩ := zsq_or q
    · exact .inl ⟨a, xs, rfl, e, q.out⟩
    · exact .inr (.inr ⟨a, xs, rfl, e, ZSide.c q, (ZSide.a q).out⟩)
  | _ => exact q.elim)
def zSetL : V → V → V → Hp → (Hp → Prop) → Prop := fun o i v H Q => match o, i with
  | .ref p, .int k => ZGet H p fun u => match u with
    | .lst xs => ZEx (fun j => ixN xs.length k = some j) fun j => ZSet H p (.lst (xs.set j v)) Q
    | _ => False
  | _, _ => False
theorem zSetL_ok {X : Cx} : PSet X zSetL := fun pins s σ H o i v ov iv u Q I ro ri rv q => set_list pins s σ H o i v ov iv u Q I ro ri rv (by
  cases o with
  | ref p => cases i with
    | int k =>
      obtain ⟨w, e, q⟩ := ZGet.out q
      cases w with
      | lst xs =>
        obtain ⟨j, ej, q⟩ := ZEx.out q
        exact ⟨p, xs, k, j, rfl, rfl, e, ej, q.out⟩
      | _ => exact q.elim
    | _ => exact q.elim
  | _ => exact q.elim)
/-! ### built-in functions -/
def zLen (K : PySem.W.Frag) : List V → Hp → VK → Prop := fun xs H Q => match xs with
  | [.str z] => ZSide (z.length ≤ sizeLine) (Q (.int z.length) H)
  | [.ref p] => ZSq K H p fun _ ys => Q (.int ys.length) H
  | _ => False
theorem CallR.or {X : Cx} {f : Value} {r r' : List V → Hp → VK → Prop} (h : CallR X f r) (h' : CallR X f r') : CallR X f (fun xs H Q => r xs H Q ∨ r' xs H Q) := fun pins s σ H xs us Q I rx q => q.elim (h pins s σ H xs us Q I rx) (h' pins s σ H xs us Q I rx)
theorem CallR.imp {X : Cx} {f : Value} {r r' : List V → Hp → VK → Prop} (h : CallR X f r) (i : ∀ xs H Q, r' xs H Q → r xs H Q) : CallR X f r' := fun pins s σ H xs us Q I rx q => h pins s σ H xs us Q I rx (i xs H Q q)
theorem zLen_ok {X : Cx} : CallR X (.builtin "len") (zLen X.K) := CallR.imp (CallR.or call_len_str call_len_seq) fun xs H Q q => by
  unfold zLen at q
  split at q
  · rename_i z
    exact .inl ⟨z, rfl, q.c, q.a⟩
  · rename_i p
    obtain ⟨ys, ⟨e, q⟩ | ⟨e, q⟩⟩ := zsq_or q
    · exact .inr ⟨p, ys, rfl, .inl e, q⟩
    · exact .inr ⟨p, ys, rfl, .inr e, q⟩
  · exact q.elim
def zIntF : List V → Hp → VK → Prop := fun xs H Q => match xs with
  | [.int i] => Q (.int i) H
  | [.str a] => ZEx (fun n : Int => PySem.intText? a = some n ∧ a.length ≤ 640) fun n => Q (.int n) H
  | _ => False
theorem zIntF_ok {X : Cx} : CallR X (.type "int") zIntF := CallR.imp (CallR.or call_int1 call_int_str) fun xs H Q q => by
  unfold zIntF at q
  split at q
  · rename_i i
    exact .inl (.inl ⟨i, rfl, q⟩)
  · rename_i a
    obtain ⟨n, ⟨e, l⟩, q⟩ := q.out
    exact .inr ⟨a, n, rfl, e, l, q⟩
  · exact q.elim
def zStrF : List V → Hp → VK → Prop := fun xs H Q => match xs with
  | [.int i] => ZSide (i.natAbs.log2 < 1920) (Q (.str (toString i)) H)
  | _ => False
theorem zStrF_ok {X : Cx} : CallR X (.type "str") zStrF := CallR.imp call_str_int fun xs H Q q => by
  unfold zStrF at q
  split at q
  · rename_i i
    exact ⟨i, rfl, q.c, q.a⟩
  · exact q.elim
def zListF (K : PySem.W.Frag) : List V → Hp → VK → Prop := fun xs H Q => match xs with
  | [.ref p] => ZSq K H p fun _ ys => ZNew H (.lst ys) fun l H' => Q (.ref l) H'
  | _ => False
theorem zListF_ok {X : Cx} : CallR X (.type "list") (zListF X.K) := CallR.imp call_list_of fun xs H Q q => by
  unfold zListF at q
  split at q
  · rename_i p
    obtain ⟨ys, ⟨e, q⟩ | ⟨e, q⟩⟩ := zsq_or q
    · exact ⟨p, ys, rfl, .inl e, q.out⟩
    · exact ⟨p, ys, rfl, .inr e, q.out⟩
  · exact q.elim
def zMin2 : List V → Hp → VK → Prop := fun xs H Q => match xs with
  | [.int i, .int j] => Q (.int (if j < i then j else i)) H
  | _ => False
def zMax2 : List V → Hp → VK → Prop := fun xs H Q => match xs with
  | [.int i, .int j] => Q (.int (if j > i then j else i)) H
  | _ => False
theorem zMin2_ok {X : Cx} (hc : X.calm = true) : CallR X (.builtin "min") zMin2 := CallR.imp (call_min2 hc) fun xs H Q q => by
  unfold zMin2 at q
  split at q
  · exact ⟨_, _, rfl, q⟩
  · exact q.elim
theorem zMax2_ok {X : Cx} (hc : X.calm = true) : CallR X (.builtin "max") zMax2 := CallR.imp (call_max2 hc) fun xs H Q q => by
  unfold zMax2 at q
  split at q
  · exact ⟨_, _, rfl, q⟩
  · exact q.elim
def zAbs : List V → Hp → VK → Prop := fun xs H Q => match xs with
  | [.int i] => Q (.int (if i < 0 then -i else i)) H
  | _ => False
theorem zAbs_ok {X : Cx} : CallR X (.builtin "abs") zAbs := CallR.imp call_abs fun xs H Q q => by
  unfold zAbs at q
  split at q
  · exact ⟨_, rfl, q⟩
  · exact q.elim
/-- isinstance(x, T), T one of the built-in types; the type of x is told by P -/
structure ZIsi (K : PySem.W.Frag) (x : V) (H : Hp) (c : V) (R : Bool → Prop) : Prop where
  out : ∃ t u b, ClsV c u ∧ TyX K H x t ∧ PySem.W.kitOne K t u = some b ∧ R b
def zIsi (K : PySem.W.Frag) : List V → Hp → VK → Prop := fun xs H Q => match xs with
  | [x, c] => ZIsi K x H c fun b => Q (.bl b) H
  | _ => False
theorem zIsi_ok {X : Cx} : CallR X (.builtin "isinstance") (zIsi X.K) := CallR.imp call_isi fun xs H Q q => by
  unfold zIsi at q
  split at q
  · rename_i x c
    obtain ⟨t, u, b, h1, h2, h3, h4⟩ := q.out
    exact ⟨x, c, t, u, b, rfl, h1, h2, h3, h4⟩
  · exact q.elim
/-! ### methods of built-in types -/
structure ZTy (K : PySem.W.Frag) (T : String) (x : V) (H : Hp) (R : Prop) : Prop where
  out : tyV K T x H ∧ R
def zMeth (K : PySem.W.Frag) (T : String) (r : V → List V → Hp → VK → Prop) (to : TE) (t : TA) : TE := fun σ H Q => to σ H fun x H1 => ZTy K T x H1 (t σ H1 fun xs H2 => r x xs H2 Q)
theorem zMeth_eq (K : PySem.W.Frag) (T : String) (r : V → List V → Hp → VK → Prop) (to : TE) (t : TA) : zMeth K T r to t = tBM K T r to t := by
  funext σ H Q
  exact congrArg (to σ H) (funext fun x => funext fun H1 => propext ⟨fun h => h.out, fun h => ⟨h⟩⟩)
def zMeth0 (K : PySem.W.Frag) (T : String) (r : V → List V → Hp → VK → Prop) (to : TE) : TE := fun σ H Q => to σ H fun x H1 => ZTy K T x H1 (r x [] H1 Q)
theorem zMeth0_eq (K : PySem.W.Frag) (T : String) (r : V → List V → Hp → VK → Prop) (to : TE) : zMeth0 K T r to = tBM0 K T r to := by
  funext σ H Q
  exact congrArg (to σ H) (funext fun x => funext fun H1 => propext ⟨fun h => h.out, fun h => ⟨h⟩⟩)
theorem zty_s {K : PySem.W.Frag} {z : Str} {H : Hp} {R : Prop} (r : R) : ZTy K "str" (.str z) H R := ⟨rfl, r⟩
theorem zty_l {K : PySem.W.Frag} {a : Addr} {xs : List V} {cs : List Chunk} {H : Hp} {R : Prop} (h : Own cs H) (m : pt a (.lst xs) ∈ cs) (r : R) : ZTy K "list" (.ref a) H R := ⟨.inl ⟨rfl, xs, SqL.of (h.get m)⟩, r⟩
theorem MtR.imp {X : Cx} {id : String} {r r' : V → List V → Hp → VK → Prop} (h : MtR X id r) (i : ∀ x xs H Q, r' x xs H Q → r x xs H Q) : MtR X id r' := fun pins s σ H x xs v us Q I rx rs q => h pins s σ H x xs v us Q I rx rs (i x xs H Q q)
def zAppend : V → List V → Hp → VK → Prop := fun x vs H Q => match x, vs with
  | .ref l, [y] => ZGet H l fun o => match o with
    | .lst xs => ZSide (xs.length < sizeLine) (ZSet H l (.lst (xs ++ [y])) fun H' => Q .non H')
    | _ => False
  | _, _ => False
theorem zAppend_ok {X : Cx} : MtR X "list.append" zAppend := MtR.imp mt_append fun x vs H Q q => by
  unfold zAppend at q
  split at q
  · rename_i l y
    obtain ⟨o, e, q⟩ := q.out
    split at q
    · rename_i xs
      exact ⟨l, xs, y, rfl, rfl, e, q.c, q.a.out⟩
    · exact q.elim
  · exact q.elim
def zPop : V → List V → Hp → VK → Prop := fun x vs H Q => match x, vs with
  | .ref l, [] => ZGet H l fun o => match o with
    | .lst xs => ZEx (fun y => xs[xs.length - 1]? = some y) fun y => ZSet H l (.lst xs.dropLast) fun H' => Q y H'
    | _ => False
  | _, _ => False
theorem zPop_ok {X : Cx} : MtR X "list.pop" zPop := MtR.imp mt_pop fun x vs H Q q => by
  unfold zPop at q
  split at q
  · rename_i l
    obtain ⟨o, e, q⟩ := q.out
    split at q
    · rename_i xs
      obtain ⟨y, ey, q⟩ := q.out
      exact ⟨l, xs, y, rfl, rfl, e, ey, q.out⟩
    · exact q.elim
  · exact q.elim
def zReverse : V → List V → Hp → VK → Prop := fun x vs H Q => match x, vs with
  | .ref l, [] => ZGet H l fun o => match o with
    | .lst xs => ZSet H l (.lst xs.reverse) fun H' => Q .non H'
    | _ => False
  | _, _ => False
theorem zReverse_ok {X : Cx} : MtR X "list.reverse" zReverse := MtR.imp mt_reverse fun x vs H Q q => by
  unfold zReverse at q
  split at q
  · rename_i l
    obtain ⟨o, e, q⟩ := q.out
    split at q
    · rename_i xs
      exact ⟨l, xs, rfl, rfl, e, q.out⟩
    · exact q.elim
  · exact q.elim
def zStrM (g : Str → Str → V) : V → List V → Hp → VK → Prop := fun x vs H Q => match x, vs with
  | .str a, [.str b] => Q (g a b) H
  | _, _ => False
theorem zStrM_imp {g : Str → Str → V} {x : V} {vs : List V} {H : Hp} {Q : VK} (q : zStrM g x vs H Q) : ∃ a b, x = .str a ∧ vs = [.str b] ∧ Q (g a b) H := by
  unfold zStrM at q
  split at q
  · exact ⟨_, _, rfl, rfl, q⟩
  · exact q.elim
theorem zFind_ok {X : Cx} : MtR X "str.find" (zStrM fun a b => .int (Txt.find a b)) := MtR.imp mt_find fun _ _ _ _ q => zStrM_imp q
theorem zEndswith_ok {X : Cx} : MtR X "str.endswith" (zStrM fun a b => .bl (Txt.endswith a b)) := MtR.imp mt_endswith fun _ _ _ _ q => zStrM_imp q
theorem zStartswith_ok {X : Cx} : MtR X "str.startswith" (zStrM fun a b => .bl (Txt.startswith a b)) := MtR.imp mt_startswith fun _ _ _ _ q => zStrM_imp q
def zSplit : V → List V → Hp → VK → Prop := fun x vs H Q => match x, vs with
  | .str a, [.str b] => ZSide ((b.length == 0) = false ∧ a.length + 2 ≤ sizeLine) (ZNew H (.lst ((Txt.split a b).map V.str)) fun p H' => Q (.ref p) H')
  | _, _ => False
theorem zSplit_ok {X : Cx} : MtR X "str.split" zSplit := MtR.imp mt_split fun x vs H Q q => by
  unfold zSplit at q
  split at q
  · exact ⟨_, _, rfl, rfl, q.c.1, q.c.2, q.a.out⟩
  · exact q.elim
/-! ### expressions -/
section
variable {m : Bool} {X : Cx} {W : WX} {k : Nat} {a b c e : Expr} {es : List Expr} {ta tb te : TE} {tA tB' : TT} {t : TA} {pos : Pos} {rest : List Expr}
theorem z_v (i : Nat) {x : Str} (hN : X.N[i]? = some x := by rfl) (hv : Vis X.env.scope x := by first | exact Or.inl rfl | exact Or.inr (Or.inl rfl) | exact Or.inr (Or.inr rfl)) (hd : (x == ("__debug__" : Str)) = false := by decide) (hcd : (x == ("__classdict__" : Str)) = false := by decide) : PE X (.Name x pos) (zVar i) := by
  rw [zVar_eq]
  exact pe_var hN hv hd hcd
theorem z_bin {op : Operator} {r : R2} (ho : OpR X (binaryOp op) r) (ha : PE X a ta) (hb : PE X b tb) : PE X (.BinOp a op b pos) (tOp r ta tb) := pe_op ho ha hb
theorem z_cmp {op : CmpOp} {r : R2} (ho : OpR X (compareOp op) r) (ha : PE X a ta) (hb : PE X b tb) (hm : behindInMarks op b = false := by first | rfl | exact nomark _) : PE X (.Compare a [op] [b] pos) (tOp r ta tb) := pe_cmpR ho ha hb hm
theorem zt_cmp {op : CmpOp} {r : R2} (ho : OpR X (compareOp op) r) (ha : PE X a ta) (hb : PE X b tb) (hm : behindInMarks op b = false := by first | rfl | exact nomark _) : PT X (.Compare a [op] [b] pos) (zTest (tOp r ta tb)) := by
  rw [zTest_eq]
  exact pt_cmpR ho ha hb hm
def zChain (r r' : R2) (ta tb tc : TE) : TE := fun σ H Q => ta σ H fun x H1 => tb σ H1 fun y H2 => r x y H2 (onB fun k H3 => ZIf (k = true) (tc σ H3 fun w' H4 => r' y w' H4 Q) (Q (.bl false) H3))
theorem zChain_eq (r r' : R2) (ta tb tc : TE) : zChain r r' ta tb tc = tChain r r' ta tb tc := by
  funext σ H Q
  refine congrArg (ta σ H) (funext fun x => funext fun H1 => congrArg (tb σ H1) (funext fun y => funext fun H2 => congrArg (r x y H2) (funext fun z => funext fun H3 => ?_)))
  rw [onB_eq]
  exact congrArg Exists (funext fun c => congrArg (And _) zif_iff)
theorem z_t (ha : PE X a ta) (he : ∀ whole, isTrue a X.env whole = (do let v ← whole; standAt a.pos; holding [v] (truthy v)) := by intro _; rfl) : PT X a (zT X.K ta) := by
  have e : zT X.K ta = fun σ H Q => ta σ H fun x H' => zTru X.K x H' Q := rfl
  rw [e]
  refine ⟨fun pins s σ H Q I h => ?_⟩
  refine isTrue_plain (thn (ha.run pins s σ H _ I h) fun v s1 hh => ?_) (he _)
  obtain ⟨x, H1, I1, r1, q1⟩ := hh
  refine tru_ok pins s1 σ H1 x v Q I1 r1 ?_
  unfold zTru at q1
  split at q1
  · exact ⟨_, rfl, q1⟩
  · exact ⟨_, rfl, q1⟩
  · exact ⟨_, rfl, q1⟩
  · exact ⟨_, ⟨q1.c, rfl⟩, q1.a⟩
  · obtain ⟨xs, ⟨e, q⟩ | ⟨e, q⟩⟩ := zsq_or q1
    · exact ⟨_, .inl ⟨xs, e, rfl⟩, q⟩
    · exact ⟨_, .inr (.inl ⟨xs, e, rfl⟩), q⟩
  · exact q1.elim
theorem zt_and1 (ha : PT X a tA) : PW X (.BoolOp .And [a] pos) tA := pw_and1 ha
theorem zt_or1 (ha : PT X a tA) : PW X (.BoolOp .Or [a] pos) tA := pw_or1 ha
theorem zt_and (ha : PT X a tA) (hb : PW X (.BoolOp .And (b :: rest) pos) tB') : PW X (.BoolOp .And (a :: b :: rest) pos) (zAnd tA tB') := by
  rw [zAnd_eq]
  exact pw_and ha hb
theorem zt_or (ha : PT X a tA) (hb : PW X (.BoolOp .Or (b :: rest) pos) tB') : PW X (.BoolOp .Or (a :: b :: rest) pos) (zOr tA tB') := by
  rw [zOr_eq]
  exact pw_or ha hb
theorem zt_not (ha : PT X a tA) : PT X (.UnaryOp .Not a pos) (tNot tA) := pt_not ha
theorem z_and (ha : PE X a ta) (hb : PE X (.BoolOp .And (b :: rest) pos) tb) : PE X (.BoolOp .And (a :: b :: rest) pos) (zAndV ta tb) := by
  rw [zAndV_eq]
  exact pe_and ha hb
theorem z_or (ha : PE X a ta) (hb : PE X (.BoolOp .Or (b :: rest) pos) tb) : PE X (.BoolOp .Or (a :: b :: rest) pos) (zOrV ta tb) := by
  rw [zOrV_eq]
  exact pe_or ha hb
theorem z_not (ha : PE X a ta) : PE X (.UnaryOp .Not a pos) (zNotV ta) := by
  rw [zNotV_eq]
  exact pe_not ha
theorem z_ife (hc : PT X c tA) (ha : PE X a ta) (hb : PE X b tb) : PE X (.IfExp c a b pos) (zIfE tA ta tb) := by
  rw [zIfE_eq]
  exact pe_ifExp hc ha hb
theorem z_ix (ha : PE X a ta) (hb : PE X b tb) (hs : PlainIx b := by intro _ _; rfl) : PE X (.Subscript a b pos) (tOp (zIx X.K) ta tb) := pe_ix zIx_ok ha hb hs
theorem z_po (h : PE X e te) : PO X (some e) (zPart te) := by
  rw [zPart_eq]
  exact po_some h
theorem z_sl {lo hi : Option Expr} {tl th : TO} {p2 : Pos} (he : PE X e te) (hl : PO X lo tl) (hu : PO X hi th) : PE X (.Subscript e (.Slice lo hi none p2) pos) (tSl (zSlc X.K) te tl th) := pe_slice zSlc_ok he hl hu
theorem z_lst (h : PA X es t) : PE X (.List es pos) (zLst t) := by
  rw [zLst_eq]
  exact pe_lst h
theorem z_tup {x1 : Nat} (h : PA X es t) : PE X (.Tuple es x1 pos) (zTup t) := by
  rw [zTup_eq]
  exact pe_tup h
/-- a def of the module is called -/
theorem z_call {x : Str} {ps : List Str} {sp : Sp} {j : Nat} {q : Pos} (c : Cz m X W k) (F : GFn m X.prog X.w X.K X.mg X.base j x ps sp) (hk : j ≤ k) (ha : PA X (e :: es) t) (hg : Gl X x := by rfl) (hdb : (x == ("__debug__" : Str)) = false := by decide)
    (he : starEach (e :: es) X.env = (false, eval e X.env) :: starEach es X.env := by rfl) (hpl : (backTo pos (starEach es X.env)).any (·.1) = false := by rfl) : PE X (.Call (.Name x q) (e :: es) [] pos) (zCall sp W t) := by
  rw [zCall_eq]
  obtain ⟨f, fd, F, hm, kp, b⟩ := F.ex
  cases m with
  | true => exact pe_callS F (c.room.mono hk) hg hm kp b (fun σ => L2N.passAt c.tk σ) ha hdb he hpl
  | false => exact L2H.pe_callH F (c.hot.2.mono hk) c.hot.1 hg hm kp b (fun σ => L2N.passAt c.tk σ) ha hdb he hpl
theorem z_callB {x : Str} {id : String} {r : List V → Hp → VK → Prop} {p : Pos} (hc : CallR X (.builtin id) r) (hm : X.mg x = none) (hv : bootBuiltins x = some (.builtin id)) (ha : PA X (e :: es) t) (hg : Gl X x := by rfl) (hn : x ≠ "__name__" := by decide) (hdb : (x == ("__debug__" : Str)) = false := by decide)
    (he : starEach (e :: es) X.env = (false, eval e X.env) :: starEach es X.env := by rfl) (hpl : (backTo pos (starEach es X.env)).any (·.1) = false := by rfl) : PE X (.Call (.Name x p) (e :: es) [] pos) (tCB r t) := pe_callB hc hg hm hv ha hn hdb he hpl
theorem z_callT {x : Str} {T : String} {r : List V → Hp → VK → Prop} {p : Pos} (hc : CallR X (.type T) r) (hm : X.mg x = none) (hv : bootBuiltins x = some (.type T)) (ha : PA X (e :: es) t) (hg : Gl X x := by rfl) (hn : x ≠ "__name__" := by decide) (hdb : (x == ("__debug__" : Str)) = false := by decide)
    (he : starEach (e :: es) X.env = (false, eval e X.env) :: starEach es X.env := by rfl) (hpl : (backTo pos (starEach es X.env)).any (·.1) = false := by rfl) : PE X (.Call (.Name x p) (e :: es) [] pos) (tCB r t) := pe_callTy hc hg hm hv ha hn hdb he hpl
theorem z_meth {o : Expr} {to : TE} {name : Str} {apos : Pos} {T id : String} {r : V → List V → Hp → VK → Prop} (pa : PlainAttrs T) (slot : Slot T name id) (hty : typeOf (.builtin id) = pure (.type "method_descriptor")) (hm : MtR X id r) (ho : PE X o to) (ha : PA X (e :: es) t)
    (hbase : attributeBase o name X.env (eval o X.env) = eval o X.env := by rfl)
    (hfew : ((backTo pos (starEach (e :: es) X.env)).all (fun x => !x.1) && (backToKw pos (keywordEach [] X.env)).all (fun x => x.1.isSome) && decide ((e :: es).length + ([] : List Keyword).length + (if ([] : List Keyword).isEmpty then 0 else 1) < 30)) = true := by rfl)
    (hline : (apos.endLine == pos.line) = true := by rfl) (hs : starEach (e :: es) X.env = (false, eval e X.env) :: starEach es X.env := by rfl) (hplain : (backTo pos (starEach es X.env)).any (·.1) = false := by rfl) : PE X (.Call (.Attribute o name apos) (e :: es) [] pos) (zMeth X.K T r to t) := by
  rw [zMeth_eq]
  exact pe_bm pa slot hty hm ho ha hbase hfew hline hs hplain
theorem z_meth0 {o : Expr} {to : TE} {name : Str} {apos : Pos} {T id : String} {r : V → List V → Hp → VK → Prop} (pa : PlainAttrs T) (slot : Slot T name id) (hty : typeOf (.builtin id) = pure (.type "method_descriptor")) (hm : MtR X id r) (ho : PE X o to)
    (hbase : attributeBase o name X.env (eval o X.env) = eval o X.env := by rfl) (hline : (apos.endLine == pos.line) = true := by rfl) : PE X (.Call (.Attribute o name apos) [] [] pos) (zMeth0 X.K T r to) := by
  rw [zMeth0_eq]
  exact pe_bm0 pa slot hty hm ho hbase hline
end
end Z

/-! Z2: statements, loops, errors -/
namespace Z
open PySem PySem.Spec PyProof.Rows L2
section
variable {m : Bool} {X : Cx} {W : WX} {k : Nat} {e c : Expr} {te : TE} {st : Stmt} {rest body : List Stmt} {t u : TS} {pos : Pos} {wi : TI} {g : TG} {tb : TS} {tg iter : Expr}
theorem z_if {a b : List Stmt} {tc : TT} (hc : PT X c tc) (ha : PSs X a t) (hb : PSs X b u) : PS X (.If c a b pos) (zIfS tc t u) := by
  rw [zIfS_eq]
  exact ps_if hc ha hb
theorem z_set (i : Nat) {x : Str} {pos' : Pos} (he : PE X e te) (hN : X.N.Nodup) (hi : X.N[i]? = some x := by rfl) (hx : Loc X.env.scope x := by first | exact Or.inl rfl | exact Or.inr rfl) (hs : swapsWith e (some (.Name x pos')) pos.line X.env = pure false := by rfl) (hf : X.fn x = true ∨ X.env.scope.names.lookup x = some .local := by first | exact .inl rfl | exact .inr rfl) :
    PS X (.Assign [.Name x pos'] e pos) (tAsg te (zN i)) := by
  rw [zN_eq]
  exact ps_set hN hi hx he hs hf
theorem zg_name (i : Nat) {x : Str} (hN : X.N.Nodup) (hi : X.N[i]? = some x := by rfl) (hx : Loc X.env.scope x := by first | exact Or.inl rfl | exact Or.inr rfl) (hf : X.fn x = true ∨ X.env.scope.names.lookup x = some .local := by first | exact .inl rfl | exact .inr rfl) : PG X (.Name x pos) (zN i) := by
  rw [zN_eq]
  exact pg_name hN hi hx hf
/-- o[i] = e -/
theorem z_setIx {o i : Expr} {to ti : TE} {ts : TSet} {pos' : Pos} (ho : PE X o to) (hi : PE X i ti) (he : PE X e te) (hs : PSet X ts) (hsw : swapsWithSole [.Subscript o i pos'] e pos.line X.env = pure false := by rfl) (hw : swappedStores [.Subscript o i pos'] e X.env = pure none := by rfl)
    (h1 : (assignEach [.Subscript o i pos'] X.env).map (·.2) = [assign (.Subscript o i pos') X.env] := by rfl)
    (ha : ∀ v, assign (.Subscript o i pos') X.env v = (do
      let ov ← holding [v] (eval o X.env)
      let iv ← holding [v, ov] (eval i X.env)
      standAt pos'
      holding [v, ov, iv] (setItem ov iv v)
      release [v, ov, iv] []) := by intro _; rfl) : PS X (.Assign [.Subscript o i pos'] e pos) (tAsg te (gSub to ti ts)) := ps_asg he (pg_sub ho hi hs ha) hsw hw h1
def zAug (i : Nat) (te : TE) (ti : R2) : TS := fun D σ H => zv σ i fun x => te σ H fun y H1 => ti x y H1 fun z H2 => zs σ i z fun σ' => D.nx σ' H2
theorem zAug_eq (i : Nat) (te : TE) (ti : R2) : zAug i te ti = tAug i te ti := by
  funext D σ H
  unfold zAug
  rw [propext zv_iff]
  refine congrArg Exists (funext fun x => congrArg (And _) ?_)
  exact congrArg (te σ H) (funext fun y => funext fun H1 => congrArg (ti x y H1) (funext fun z => funext fun H2 => zs_eq))
theorem z_aug (i : Nat) {x : Str} {op : Operator} {ti : R2} {pos' : Pos} (he : PE X e te) (ho : OpR X (inplaceOp op) ti) (hN : X.N.Nodup) (hi : X.N[i]? = some x := by rfl) (hx : Loc X.env.scope x := by first | exact Or.inl rfl | exact Or.inr rfl) (hf : X.fn x = true ∨ X.env.scope.names.lookup x = some .local := by first | exact .inl rfl | exact .inr rfl) :
    PS X (.AugAssign (.Name x pos') op e pos) (zAug i te ti) := by
  rw [zAug_eq]
  exact ps_aug hN hi hx he ho hf
/-! ### loops -/
structure ZLoop (J : It) (g : TG) (tb : TS) (D : Ends) (σ : St) (H : Hp) : Prop where
  out : ∃ W : Nat → Nat → St → Hp → Prop, (∃ m, W 0 m σ H) ∧ ∀ i m σ H, W i m σ H →
    (J.stop i H ∧ D.nx σ H) ∨ (J.go i H ∧ ∃ N : St → Hp → Prop, (∀ σ' H', N σ' H' → ∃ m', m' < m ∧ W (i + 1) m' σ' H') ∧ ∀ x H', J.yld i H x H' → g x σ H' fun σ2 H2 => tb { D with nx := N, ct := N, bk := D.nx } σ2 H2)
def zFor (wi : TI) (g : TG) (tb : TS) : TS := fun D σ H => wi σ H fun J H1 => ZLoop J g tb D σ H1
theorem zFor_eq (wi : TI) (g : TG) (tb : TS) : zFor wi g tb = tFor wi g tb := by
  funext D σ H
  exact congrArg (wi σ H) (funext fun J => funext fun H1 => propext ⟨fun h => h.out, fun h => ⟨h⟩⟩)
theorem z_for (cz : Cz true X W k) (hi : PI X tg iter wi) (hg : PG X tg g) (hb : PSs X body tb) (hs : ∀ x, foldedSetIterable iter X.env x = pure x := by intro _; rfl) : PS X (.For tg iter body [] pos) (zFor wi g tb) := by
  rw [zFor_eq]
  exact ps_for cz.own cz.calm hi hg hb hs
/-- the same while an error is handled, over a range -/
theorem z_forH (cz : Cz false X W k) (hi : L2H.PIH X tg iter wi) (hg : PG X tg g) (hb : PSs X body tb) (hs : ∀ x, foldedSetIterable iter X.env x = pure x := by intro _; rfl) : PS X (.For tg iter body [] pos) (zFor wi g tb) := by
  rw [zFor_eq]
  exact L2H.ps_forH cz.own cz.hot.1 hi hg hb hs
/-- a list or a tuple that is walked -/
def zItS (K : PySem.W.Frag) (tl : TE) : TI := fun σ H R => tl σ H fun x H1 => match x with
  | .ref a => ZSq K H1 a fun b _ => match b with
    | true => R (Itl K a) H1
    | false => R (Itt K a) H1
  | _ => False
theorem z_itS {l : Expr} {tl : TE} (hl : PE X l tl) : PI X tg l (zItS X.K tl) := by
  constructor
  intro pins s σ H R I h
  refine thn (hl.run pins s σ H _ I h) fun v s1 hh => ?_
  obtain ⟨x, H1, I1, r1, q1⟩ := hh
  cases x with
  | ref a =>
    cases r1
    have fp : ∀ (o : Obj), ∀ b ∈ [s1.heap.objs.size], FpOk X pins H1 b := fun o b hb => by
      rw [List.mem_singleton.mp hb]
      exact I1.fpOk (Nat.le_refl _) (I1.hok.fresh (Nat.le_refl _))
    obtain ⟨xs, ⟨hq, q⟩ | ⟨hq, q⟩⟩ := zsq_or q1
    · obtain ⟨its, rv, p, hz⟩ := I1.list hq
      exact wpAny_pyIter_list p.isList ⟨_, _, _, _, H1, rfl, I1.kept (t' := s1.toks) fun b o z => Heap.get?_push_of_some _ z, turn_list a _, ⟨_, Heap.get?_push_size _ rfl, rfl, rfl⟩, fp default, q⟩
    · obtain ⟨its, rv, p, hz⟩ := I1.tuple hq
      exact wpAny_pyIter_tuple (show s1.heap.IsTuple a its.toArray from p) ⟨_, _, _, _, H1, rfl, I1.kept (t' := s1.toks) fun b o z => Heap.get?_push_of_some _ z, turn_tuple a _, ⟨_, Heap.get?_push_size _ rfl, rfl, rfl⟩, fp default, q⟩
  | _ => exact q1.elim
def zRng1 (ta : TA) : TI := fun σ H R => ta σ H fun vs H1 => match vs with
  | [.int j] => ZSide (-(2 ^ 62) ≤ j ∧ j < 2 ^ 62) (R (Itr 0 j.toNat) H1)
  | _ => False
theorem zRng1_eq (ta : TA) : zRng1 ta = iRng1 ta := by
  funext σ H R
  refine congrArg (ta σ H) (funext fun vs => funext fun H1 => propext ⟨fun h => ?_, fun h => ?_⟩)
  · split at h
    · exact ⟨_, rfl, h.c.1, h.c.2, h.a⟩
    · exact h.elim
  · obtain ⟨j, e, a, b, r⟩ := h
    rw [e]
    exact ⟨⟨a, b⟩, r⟩
theorem z_rng1 {a : Expr} {ta : TA} {p pos : Pos} (hm : X.mg "range" = none) (ha : PA X [a] ta) (hg : Gl X "range" := by rfl) (hs : starEach [a] X.env = [(false, eval a X.env)] := by rfl) : PI X tg (.Call (.Name "range" p) [a] [] pos) (zRng1 ta) := by
  rw [zRng1_eq]
  exact pi_range1 hg hm ha hs
theorem z_rng1H {a : Expr} {ta : TA} {p pos : Pos} (hm : X.mg "range" = none) (ha : PA X [a] ta) (hg : Gl X "range" := by rfl) (hs : starEach [a] X.env = [(false, eval a X.env)] := by rfl) : L2H.PIH X tg (.Call (.Name "range" p) [a] [] pos) (zRng1 ta) := by
  rw [zRng1_eq]
  exact L2H.pi_range1H hg hm ha hs
/-- in either mode -/
theorem z_forR {a : Expr} {ta : TA} {p pos2 : Pos} (cz : Cz m X W k) (hm : X.mg "range" = none) (ha : PA X [a] ta) (hg : PG X tg g) (hb : PSs X body tb) (hgl : Gl X "range" := by rfl) (hs : starEach [a] X.env = [(false, eval a X.env)] := by rfl)
    (hs2 : ∀ x, foldedSetIterable (.Call (.Name "range" p) [a] [] pos2) X.env x = pure x := by intro _; rfl) : PS X (.For tg (.Call (.Name "range" p) [a] [] pos2) body [] pos) (zFor (zRng1 ta) g tb) := by
  cases m with
  | true => exact z_for cz (z_rng1 hm ha hgl hs) hg hb hs2
  | false => exact z_forH cz (z_rng1H hm ha hgl hs) hg hb hs2
/-- a text's signs -/
def zStrI (ts : TE) : TI := fun σ H R => ts σ H fun x H1 => match x with
  | .str z => R (Its z) H1
  | _ => False
/-! the loop's forms -/
theorem zloop_l {K : PySem.W.Frag} {a : Addr} {xs : List V} {D : Ends} {σ : St} {H : Hp} (Pv : Nat → St → Hp → Prop) (h0 : Pv 0 σ H) (hl : ∀ i σ H, i ≤ xs.length → Pv i σ H → SqL K H a xs)
    (hs : ∀ i x σ H, xs[i]? = some x → Pv i σ H → g x σ H fun σ2 H2 => tb { D with nx := Pv (i + 1), ct := Pv (i + 1), bk := D.nx } σ2 H2) (hd : ∀ σ H, Pv xs.length σ H → D.nx σ H) : ZLoop (Itl K a) g tb D σ H := ⟨for_list Pv h0 hl hs hd⟩
theorem zloop_t {K : PySem.W.Frag} {a : Addr} {xs : List V} {D : Ends} {σ : St} {H : Hp} (Pv : Nat → St → Hp → Prop) (h0 : Pv 0 σ H) (hl : ∀ i σ H, i ≤ xs.length → Pv i σ H → SqT K H a xs)
    (hs : ∀ i x σ H, xs[i]? = some x → Pv i σ H → g x σ H fun σ2 H2 => tb { D with nx := Pv (i + 1), ct := Pv (i + 1), bk := D.nx } σ2 H2) (hd : ∀ σ H, Pv xs.length σ H → D.nx σ H) : ZLoop (Itt K a) g tb D σ H := ⟨for_tup Pv h0 hl hs hd⟩
theorem zloop_r {lo : Int} {n : Nat} {D : Ends} {σ : St} {H : Hp} (Pv : Nat → St → Hp → Prop) (h0 : Pv 0 σ H) (hs : ∀ i σ H, i < n → Pv i σ H → g (.int (lo + i)) σ H fun σ2 H2 => tb { D with nx := Pv (i + 1), ct := Pv (i + 1), bk := D.nx } σ2 H2)
    (hd : ∀ σ H, Pv n σ H → D.nx σ H) : ZLoop (Itr lo n) g tb D σ H := ⟨for_range Pv h0 hs hd⟩
/-- turn by turn, a list or tuple that stays -/
def unr (P : Hp → Prop) (g : TG) (tb : TS) (D : Ends) : List V → St → Hp → Prop
  | [], σ, H => ZSide (P H) (D.nx σ H)
  | x :: xs, σ, H => ZSide (P H) (g x σ H fun σ2 H2 => tb { D with nx := unr P g tb D xs, ct := unr P g tb D xs, bk := D.nx } σ2 H2)
theorem unr_side {P : Hp → Prop} {D : Ends} {xs : List V} {σ : St} {H : Hp} (h : unr P g tb D xs σ H) : P H := by
  cases xs with
  | nil => exact ZSide.c h
  | cons x xs => exact ZSide.c h
theorem zloop_unr {K : PySem.W.Frag} {a : Addr} {xs : List V} {D : Ends} {σ : St} {H : Hp} (h : unr (fun H => SqL K H a xs) g tb D xs σ H) : ZLoop (Itl K a) g tb D σ H := by
  refine zloop_l (xs := xs) (fun i σ H => unr (fun H => SqL K H a xs) g tb D (xs.drop i) σ H) h (fun i σ H _ u => unr_side u) (fun i x σ H hi u => ?_) fun σ H u => ?_
  · have hlt := (List.getElem?_eq_some_iff.mp hi).1
    have hx := (List.getElem?_eq_some_iff.mp hi).2
    rw [List.drop_eq_getElem_cons hlt, hx] at u
    exact ZSide.a u
  · rw [List.drop_length] at u
    exact ZSide.a u
theorem zloop_unrT {K : PySem.W.Frag} {a : Addr} {xs : List V} {D : Ends} {σ : St} {H : Hp} (h : unr (fun H => SqT K H a xs) g tb D xs σ H) : ZLoop (Itt K a) g tb D σ H := by
  refine zloop_t (xs := xs) (fun i σ H => unr (fun H => SqT K H a xs) g tb D (xs.drop i) σ H) h (fun i σ H _ u => unr_side u) (fun i x σ H hi u => ?_) fun σ H u => ?_
  · have hlt := (List.getElem?_eq_some_iff.mp hi).1
    have hx := (List.getElem?_eq_some_iff.mp hi).2
    rw [List.drop_eq_getElem_cons hlt, hx] at u
    exact ZSide.a u
  · rw [List.drop_length] at u
    exact ZSide.a u
/-- turn by turn, a range -/
def unrR (g : TG) (tb : TS) (D : Ends) : Int → Nat → St → Hp → Prop
  | _, 0, σ, H => D.nx σ H
  | lo, n + 1, σ, H => g (.int lo) σ H fun σ2 H2 => tb { D with nx := unrR g tb D (lo + 1) n, ct := unrR g tb D (lo + 1) n, bk := D.nx } σ2 H2
theorem zloop_unrR {lo : Int} {n : Nat} {D : Ends} {σ : St} {H : Hp} (h : unrR g tb D lo n σ H) : ZLoop (Itr lo n) g tb D σ H := by
  refine zloop_r (fun i σ H => i ≤ n ∧ unrR g tb D (lo + i) (n - i) σ H) ⟨Nat.zero_le _, by simpa using h⟩ (fun i σ H hi u => ?_) fun σ H u => ?_
  · obtain ⟨_, u⟩ := u
    have e : n - i = (n - (i + 1)) + 1 := by omega
    rw [e] at u
    have e2 : (fun σ2 H2 => i + 1 ≤ n ∧ unrR g tb D (lo + ((i + 1 : Nat) : Int)) (n - (i + 1)) σ2 H2) = unrR g tb D (lo + i + 1) (n - (i + 1)) := by
      funext σ2 H2
      have e3 : lo + ((i + 1 : Nat) : Int) = lo + i + 1 := by omega
      rw [e3]
      exact propext ⟨fun z => z.2, fun z => ⟨by omega, z⟩⟩
    rw [e2]
    exact u
  · obtain ⟨_, u⟩ := u
    rw [Nat.sub_self] at u
    exact u
structure ZWhile (c : TT) (tb : TS) (D : Ends) (σ : St) (H : Hp) : Prop where
  out : tWhile c tb D σ H
theorem z_while {tc : TT} (cz : Cz m X W k) (hc : PT X c tc) (hb : PSs X body tb) : PS X (.While c body [] pos) (fun D σ H => ZWhile tc tb D σ H) := by
  have e : (fun D σ H => ZWhile tc tb D σ H) = tWhile tc tb := by
    funext D σ H
    exact propext ⟨fun h => h.out, fun h => ⟨h⟩⟩
  rw [e]
  exact ps_while cz.own hc hb
/-! ### errors -/
def zRaise (C : Addr) (n : Nat) (mk : List V → List (Str × V)) (W : WX) (ta : TA) : TS := fun _ σ H => ta σ H fun vs H1 => ZSide (vs.length = n ∧ vs.length ≤ 100) (ZNew H1 (.xd (mk vs)) fun d H' => W (.ref C) (some d) σ H')
theorem z_raise {x : Str} {C : Addr} {j n : Nat} {mk : List V → List (Str × V)} {es : List Expr} {ta : TA} {p p2 : Pos} (cz : Cz true X W k) (T : ErrOk X.prog X.w X.K X.mg x C j n mk) (hj : j ≤ k) (ha : PA X (e :: es) ta) (hg : Gl X x := by rfl) (hdb : (x == ("__debug__" : Str)) = false := by decide)
    (he : starEach (e :: es) X.env = (false, eval e X.env) :: starEach es X.env := by rfl) (hpl : (backTo p2 (starEach es X.env)).any (·.1) = false := by rfl) : PS X (.Raise (some (.Call (.Name x p) (e :: es) [] p2)) none pos) (zRaise C n mk W ta) := by
  have h := L2N.ps_raise (pos := pos) cz.calm cz.tk (pmk_err (p := p) (pos := p2) T (by have := cz.dp; omega) hg ha hdb he hpl)
  have q : zRaise C n mk W ta = fun (_ : Ends) σ H => ta σ H fun vs H1 => vs.length = n ∧ vs.length ≤ 100 ∧ ∀ d, H1 d = none → W (.ref C) (some d) σ (upd H1 d (.xd (mk vs))) := by
    funext D σ H
    refine congrArg (ta σ H) (funext fun vs => funext fun H1 => propext ⟨fun h => ⟨h.c.1, h.c.2, h.a.out⟩, fun h => ⟨⟨h.1, h.2.1⟩, ⟨h.2.2⟩⟩⟩)
  rw [q]
  exact h
def zsn : St → Nat → (St → Prop) → Prop
  | [], _, k => k []
  | _ :: r, 0, k => k (none :: r)
  | o :: r, n + 1, k => zsn r n fun r' => k (o :: r')
theorem zsn_eq : ∀ {σ : St} {i : Nat} {k : St → Prop}, zsn σ i k = k (σ.set i none)
  | [], _, _ => rfl
  | _ :: _, 0, _ => rfl
  | o :: r, n + 1, k => by
    show zsn r n _ = _
    rw [zsn_eq]
    rfl
/-- an error flies into a clause that names the class c -/
structure ZExm (K : PySem.W.Frag) (cls c : Value) (R : Bool → Prop) : Prop where
  out : ∃ b, PySem.W.exmOne K cls c = some b ∧ R b
def zWas (K : PySem.W.Frag) (c : Value) (i : Nat) (ts : Addr → Value → Option Addr → TS) (Wout : WX) (D : Ends) : WX := fun cls d σ H => ZExm K cls c fun b => match b with
  | true => ∀ a, H a = none → zs σ i (.ref a) fun σ' => ts a cls d { nx := fun σ' H' => zsn σ' i fun σ2 => D.nx σ2 H', rt := D.rt, bk := fun σ' H' => zsn σ' i fun σ2 => D.bk σ2 H', ct := fun σ' H' => zsn σ' i fun σ2 => D.ct σ2 H' } σ' H
  | false => Wout cls d σ H
theorem zWas_eq (K : PySem.W.Frag) (c : Value) (i : Nat) (ts : Addr → Value → Option Addr → TS) (Wout : WX) (D : Ends) : zWas K c i ts Wout D = wAs K c i ts Wout D := by
  funext cls d σ H
  have e1 : ∀ (F : St → Hp → Prop), (fun σ' H' => zsn σ' i fun σ2 => F σ2 H') = fun σ' H' => F (σ'.set i none) H' := fun F => by
    funext σ' H'
    exact zsn_eq
  refine propext ⟨fun h => ?_, fun h => ?_⟩
  · obtain ⟨b, e, h⟩ := h.out
    refine ⟨b, e, ?_⟩
    cases b with
    | true =>
      refine ⟨fun _ a ha => ?_, fun z => (nomatch z)⟩
      have q := h a ha
      rw [zs_eq, e1 D.nx, e1 D.bk, e1 D.ct] at q
      exact q
    | false => exact ⟨fun z => (nomatch z), fun _ => h⟩
  · obtain ⟨b, e, h1, h2⟩ := h
    refine ⟨b, e, ?_⟩
    cases b with
    | true =>
      intro a ha
      rw [zs_eq, e1 D.nx, e1 D.bk, e1 D.ct]
      exact h1 rfl a ha
    | false => exact h2 rfl
/-- the suite's own context -/
theorem cz_suite {a : Addr} {oe : Obj} {cls : Value} {d : Option Addr} {pn : List (Addr × Obj)} (cz : Cz true X W k) (hz : L2N.Zn cls d oe) (hf : ∃ vs, oe.data = .fields vs) : Cz false (X.suite a ((a, oe) :: pn)) (fun _ _ _ _ => False) k := by
  obtain ⟨vs, hv⟩ := hf
  refine ⟨.inr ⟨rfl, ⟨(a, oe), ⟨rfl, vs, hv, hz.2.2 vs hv⟩, List.mem_cons_self⟩, L2H.roomH_mark cz.room _⟩, fun _ _ z => ?_, PassesOwn.never, cz.stk, cz.frm⟩
  obtain ⟨_, _, _, _, _, _, _, _, _, _, _, _, _, _, _, _, w⟩ := z
  exact w.elim
theorem cz_body {pn : List (Addr × Obj)} {xe : Value → Shared → Prop} {W' : WX} (cz : Cz true X W k) (tk : L2N.Takes (X.tr pn xe) W') (ow : PassesOwn (model X.prog X.w) X.A X.env xe) : Cz true (X.tr pn xe) W' k :=
  ⟨.inl ⟨rfl, cz.calm, cz.room⟩, tk, ow, cz.stk, cz.frm⟩
/-- try: body, except x as n: suite -/
theorem z_try {x n : Str} {cv : Value} {i : Nat} {suite : List Stmt} {b₀ : Stmt} {np pos' : Pos} {tb : WX → TS} {ts : Addr → Value → Option Addr → TS} (cz : Cz true X W k) (hN : X.N.Nodup) (hc : Names X x cv)
    (hb : ∀ (W' : WX) (pn : List (Addr × Obj)) (xe : Value → Shared → Prop), Cz true (X.tr pn xe) W' k → PSs (X.tr pn xe) body (tb W'))
    (hsu : ∀ (a : Addr) (oe : Obj) (cls : Value) (d : Option Addr) (pn : List (Addr × Obj)), L2N.Zn cls d oe → (∃ vs, oe.data = .fields vs) → Cz false (X.suite a ((a, oe) :: pn)) (fun _ _ _ _ => False) k → PSs (X.suite a ((a, oe) :: pn)) (b₀ :: suite) (ts a cls d))
    (hi : X.N[i]? = some n := by rfl) (hln : X.env.kindOf n = some .local := by rfl) :
    PS X (.Try body [.ExceptHandler (some (.Name x np)) (some n) (b₀ :: suite) pos'] [] [] pos) (fun D σ H => tb (zWas X.K cv i ts W D) D σ H) := by
  have e : (fun D σ H => tb (zWas X.K cv i ts W D) D σ H) = fun D σ H => tb (wAs X.K cv i ts W D) D σ H := by
    funext D σ H
    rw [zWas_eq]
  rw [e]
  exact L2N.ps_try_as cz.stk cz.frm hN hi hln hc cz.tk (fun W' pn xe tk ow => hb W' pn xe (cz_body cz tk ow)) fun a oe cls d pn hz hf => hsu a oe cls d pn hz hf (cz_suite cz hz hf)
end
/-- the field of the error that a suite holds -/
structure ZXf (K : PySem.W.Frag) (a : Addr) (cls : Value) (d : Option Addr) (f : Str) (x : V) (H : Hp) (R : V → Prop) : Prop where
  out : ∃ (C dd : Addr) (fs : List (Str × V)) (v : V), x = .ref a ∧ cls = .ref C ∧ XfC K C ∧ PySem.W.findIn K (.ref C) f = some none ∧ d = some dd ∧ H dd = some (.xd fs) ∧ fs.lookup f = some v ∧ R v
theorem z_xf {X : Cx} {a : Addr} {oe : Obj} {cls : Value} {d : Option Addr} {pn : List (Addr × Obj)} {e : Expr} {te : TE} {pos : Pos} {f : Str} (hz : L2N.Zn cls d oe) (hf : ∃ vs, oe.data = .fields vs) (he : PE (X.suite a ((a, oe) :: pn)) e te) (hb : attributeBase e f X.env (eval e X.env) = eval e X.env := by rfl) :
    PE (X.suite a ((a, oe) :: pn)) (.Attribute e f pos) (fun σ H Q => te σ H fun x H1 => ZXf X.K a cls d f x H1 fun v => Q v H1) := by
  constructor
  intro pins s σ H Q I h
  refine attr_of hb (thn (he.run pins s σ H _ I h) fun u s1 hh => ?_)
  obtain ⟨x, H1, I1, rx, C, dd, fs, v, ex, ec, T, hno, ed, ea, l, q⟩ := hh
  subst ex
  obtain rfl : u = Value.ref a := rx
  subst ec
  subst ed
  obtain ⟨ha, _⟩ := I1.pin (a, oe) (List.mem_append_left _ List.mem_cons_self)
  obtain ⟨vs, hd⟩ := hf
  obtain ⟨mA, hns, hr⟩ := (show ObjOk X.prog X.w H1 s1.heap dd (.xd fs) from I1.hok dd _ ea)
  obtain ⟨od, ho, hl⟩ := lookIn_ns hns
  obtain ⟨u, hu, ru⟩ := RelO.some_of (v := v) (o := mA f) (by rw [← l]; exact hr f)
  have nc : PySem.W.notCls oe = true := by
    unfold PySem.W.notCls
    rw [hd]
  have J : PySem.W.InstAt s1.heap a oe C (some od) := ⟨ha, hz.1, nc, by rw [hz.2.1]; exact ho⟩
  exact HandSPX.exc_get I1.kIn J T.ga T.gg T.exC (PySem.W.findObj_own T.hdC hno rfl (by rw [hl, hu])) (handed_of ru) ⟨v, H1, I1.tok _, ru, q⟩
/-- isinstance of the error that a suite holds -/
structure IsC (K : PySem.W.Frag) (C : Addr) : Prop where
  xf : XfC K C
  cl : (PySem.W.clsIn K C).isSome = true
  ca : PySem.W.findIn K (.ref C) "__class__" = some (some (.builtin "object.__class__"))
  cn : PySem.W.specialIn K (.builtin "object.__class__") "__get__" = some (some (.builtin "getset_descriptor.__get__"))
  ct : PySem.W.takesIn K (.builtin "object.__class__") = some true
  cm : PySem.W.mroIn K C (.type "object") = some true
structure ZIsE (K : PySem.W.Frag) (a : Addr) (cls : Value) (d : Option Addr) (x c : V) (H : Hp) (R : Bool → Prop) : Prop where
  out : ∃ (C dd : Addr) (fs : List (Str × V)) (u : Value) (b : Bool), x = .ref a ∧ cls = .ref C ∧ IsC K C ∧ d = some dd ∧ H dd = some (.xd fs) ∧ ClsV c u ∧ PySem.W.kitOne K (.ref C) u = some b ∧ R b
def zIsE (K : PySem.W.Frag) (a : Addr) (cls : Value) (d : Option Addr) : List V → Hp → VK → Prop := fun xs H Q => match xs with
  | [x, c] => ZIsE K a cls d x c H fun b => Q (.bl b) H
  | _ => False
theorem zIsE_ok {X : Cx} {a : Addr} {oe : Obj} {cls : Value} {d : Option Addr} {pn : List (Addr × Obj)} (hz : L2N.Zn cls d oe) (hf : ∃ vs, oe.data = .fields vs) : CallR (X.suite a ((a, oe) :: pn)) (.builtin "isinstance") (zIsE X.K a cls d) := by
  intro pins s σ H xs us Q I r h
  unfold zIsE at h
  split at h
  · rename_i x c
    obtain ⟨C, dd, fs, u, b, ex, ec, T, ed, ea, hc, hk, q⟩ := h.out
    subst ex ec ed
    obtain ⟨u1, u2, rfl, r1, r2⟩ := vals2 r
    cases (show u1 = Value.ref a from r1)
    have e2 := hc.eq r2
    subst e2
    obtain ⟨hget, _⟩ := I.pin (a, oe) (List.mem_append.mpr (.inl List.mem_cons_self))
    obtain ⟨vs, hv⟩ := hf
    obtain ⟨mA, hns, hr⟩ := (show ObjOk X.prog X.w H s.heap dd (.xd fs) from I.hok dd _ ea)
    obtain ⟨od, ho, hl⟩ := lookIn_ns hns
    have nc : PySem.W.notCls oe = true := by
      unfold PySem.W.notCls
      rw [hv]
    have J : PySem.W.InstAt s.heap a oe C (some od) := ⟨hget, hz.1, nc, by rw [hz.2.1]; exact ho⟩
    exact PySem.W.kia_one (PySem.W.kitx_exc T.cl T.xf.ga T.xf.gg T.xf.exC T.ca T.cn T.ct T.cm) I.kIn J hk (fun z => (nomatch z)) fun tk => ⟨.bl b, H, I.kept (t' := tk) fun _ _ z => z, rfl, q⟩
  · exact h.elim
end Z

/-! Z3: more operators, types, calls, the step of a walk -/
namespace Z
open PySem PySem.Spec PyProof.Rows L2
def zSub : R2 := zInt fun i j => .int (i - j)
def zMul : R2 := zIntC CMul fun i j => .int (i * j)
def zFdv : R2 := zIntC CDivW fun i j => .int (i / j)
def zMod : R2 := zIntC (fun _ j => 0 < j) fun i j => .int (i % j)
def zPow : R2 := zIntC CPow fun i j => .int (i ^ j.toNat)
section
variable {X : Cx}
theorem zSub_ok : OpR X (binaryOp .Sub) zSub := OpR.imp op_sub zInt_imp
theorem zMul_ok : OpR X (binaryOp .Mult) zMul := OpR.imp op_mul zIntC_imp
theorem zFdv_ok : OpR X (binaryOp .FloorDiv) zFdv := OpR.imp op_fdivW zIntC_imp
theorem zMod_ok : OpR X (binaryOp .Mod) zMod := OpR.imp op_mod zIntC_imp
theorem zPow_ok : OpR X (binaryOp .Pow) zPow := OpR.imp op_pow zIntC_imp
theorem zLt_ok : OpR X (compareOp .Lt) zLt := OpR.imp op_lt zInt_imp
theorem zLe_ok : OpR X (compareOp .LtE) zLe := OpR.imp op_le zInt_imp
theorem zGt_ok : OpR X (compareOp .Gt) zGt := OpR.imp op_gt zInt_imp
theorem zGe_ok : OpR X (compareOp .GtE) zGe := OpR.imp op_ge zInt_imp
end
/-- in, over a text or a list or a tuple -/
def zIn (K : PySem.W.Frag) (neg : Bool) : R2 := fun x y H Q => match y with
  | .str _ => zInC neg x y H Q
  | .ref _ => zInL K neg x y H Q
  | _ => False
theorem zIn_ok {X : Cx} : OpR X (compareOp .In) (zIn X.K false) := fun pins s σ H x y v u Q I rx ry q => by
  cases y with
  | str z => exact zInC_ok pins s σ H x _ v u Q I rx ry q
  | ref p => exact zInL_ok pins s σ H x _ v u Q I rx ry q
  | _ => exact q.elim
theorem zNotIn_ok {X : Cx} : OpR X (compareOp .NotIn) (zIn X.K true) := fun pins s σ H x y v u Q I rx ry q => by
  cases y with
  | str z => exact zNotInC_ok pins s σ H x _ v u Q I rx ry q
  | ref p => exact zNotInL_ok pins s σ H x _ v u Q I rx ry q
  | _ => exact q.elim
/-! ### types -/
inductive Tn where
  | int | bool | str | list | tuple | non | dict
def Tn.nm : Tn → String
  | .int => "int"
  | .bool => "bool"
  | .str => "str"
  | .list => "list"
  | .tuple => "tuple"
  | .non => "NoneType"
  | .dict => "dict"
def isT : Tn → Tn → Bool
  | .int, .int => true
  | .bool, .bool => true
  | .bool, .int => true
  | .str, .str => true
  | .list, .list => true
  | .tuple, .tuple => true
  | .non, .non => true
  | .dict, .dict => true
  | _, _ => false
theorem isT_ok : ∀ a b : Tn, kitB a.nm b.nm = some (isT a b)
  | .int, .int | .int, .bool | .int, .str | .int, .list | .int, .tuple | .int, .non | .int, .dict => by decide +kernel
  | .bool, .int | .bool, .bool | .bool, .str | .bool, .list | .bool, .tuple | .bool, .non | .bool, .dict => by decide +kernel
  | .str, .int | .str, .bool | .str, .str | .str, .list | .str, .tuple | .str, .non | .str, .dict => by decide +kernel
  | .list, .int | .list, .bool | .list, .str | .list, .list | .list, .tuple | .list, .non | .list, .dict => by decide +kernel
  | .tuple, .int | .tuple, .bool | .tuple, .str | .tuple, .list | .tuple, .tuple | .tuple, .non | .tuple, .dict => by decide +kernel
  | .non, .int | .non, .bool | .non, .str | .non, .list | .non, .tuple | .non, .non | .non, .dict => by decide +kernel
  | .dict, .int | .dict, .bool | .dict, .str | .dict, .list | .dict, .tuple | .dict, .non | .dict, .dict => by decide +kernel
/-- the type of an object -/
structure ZTyp (K : PySem.W.Frag) (H : Hp) (a : Addr) (R : Tn → Prop) : Prop where
  out : ∃ t : Tn, TyX K H (.ref a) (.type t.nm) ∧ R t
def zTyp (K : PySem.W.Frag) (x : V) (H : Hp) (R : Tn → Prop) : Prop := match x with
  | .non => R .non
  | .bl _ => R .bool
  | .int _ => R .int
  | .str _ => R .str
  | .ref a => ZTyp K H a R
  | _ => False
def zIsR (K : PySem.W.Frag) (tn : Tn) : List V → Hp → VK → Prop := fun xs H Q => match xs with
  | [x, .ty n] => ZSide (n = tn.nm) (zTyp K x H fun t => Q (.bl (isT t tn)) H)
  | _ => False
theorem zIsR_ok {X : Cx} (tn : Tn) : CallR X (.builtin "isinstance") (zIsR X.K tn) := CallR.imp call_isi fun xs H Q q => by
  unfold zIsR at q
  split at q
  · rename_i x n
    obtain ⟨rfl, q⟩ := q
    have k : ∀ t : Tn, TyX X.K H x (.type t.nm) → Q (.bl (isT t tn)) H → rIsi X.K [x, .ty tn.nm] H Q := fun t h1 h2 => ⟨x, _, _, _, _, rfl, .ty _, h1, kit_ty (isT_ok t tn), h2⟩
    cases x with
    | non => exact k .non (.base .non) q
    | bl _ => exact k .bool (.base (.bl _)) q
    | int _ => exact k .int (.base (.int _)) q
    | str _ => exact k .str (.base (.str _)) q
    | ref a =>
      obtain ⟨t, h1, h2⟩ := ZTyp.out q
      exact k t h1 h2
    | _ => exact q.elim
  · exact q.elim
def zIsT (K : PySem.W.Frag) (tn : Tn) (ta : TE) : TE := fun σ H Q => ta σ H fun x H1 => zTyp K x H1 fun t => Q (.bl (isT t tn)) H1
theorem z_isT (tn : Tn) {X : Cx} {a : Expr} {ta : TE} {x : Str} {p p2 pos : Pos} (hi : X.mg "isinstance" = none) (hm : X.mg x = none) (ha : PE X a ta) (hv : bootBuiltins x = some (.type tn.nm) := by decide +kernel) (hg : Gl X "isinstance" := by rfl) (hgx : Gl X x := by rfl) (hn : x ≠ "__name__" := by decide) (hdb : (x == ("__debug__" : Str)) = false := by decide)
    (he : starEach [a, .Name x p2] X.env = (false, eval a X.env) :: starEach [.Name x p2] X.env := by rfl) (he2 : starEach [.Name x p2] X.env = (false, eval (.Name x p2) X.env) :: starEach [] X.env := by rfl) (hpl : (backTo pos (starEach [.Name x p2] X.env)).any (·.1) = false := by rfl) :
    PE X (.Call (.Name "isinstance" p) [a, .Name x p2] [] pos) (zIsT X.K tn ta) := by
  have h := pe_callB (X := X) (p := p) (pos := pos) (e := a) (es := [.Name x p2]) (zIsR_ok tn) hg hi (by decide +kernel : bootBuiltins "isinstance" = some (.builtin "isinstance")) (pa_cons ha (pa_cons (pe_bltn (v := .ty tn.nm) hgx hm hv rfl hn hdb) pa_nil he2) he) (by decide) (by decide) he hpl
  have e : tCB (zIsR X.K tn) (tCons ta (tCons (tC (.ty tn.nm)) tNil)) = zIsT X.K tn ta := by
    funext σ H Q
    refine congrArg (ta σ H) (funext fun y => funext fun H1 => ?_)
    exact propext ⟨fun q => ZSide.a q, fun q => ⟨rfl, q⟩⟩
  rw [← e]
  exact h
section
variable {K : PySem.W.Frag} {H : Hp} {cs ds : List Chunk} {a : Addr} {R : Tn → Prop}
theorem ztyp_l {xs : List V} (h : Own cs H) (m : pt a (.lst xs) ∈ cs) (r : R .list) : ZTyp K H a R := ⟨.list, .base (.lst (h.get m)), r⟩
theorem ztyp_f {ob : Obj} {xs : List V} (h : Own cs H) (m : pt a (.frz ob (.lst xs)) ∈ cs) (r : R .list) : ZTyp K H a R := ⟨.list, .base (.frz (h.get m)), r⟩
theorem ztyp_t {xs : List V} (h : Own cs H) (m : pt a (.tup xs) ∈ cs) (r : R .tuple) : ZTyp K H a R := ⟨.tuple, .base (.tup (h.get m)), r⟩
theorem ztyp_L {xs : List V} (h : SqL K H a xs) (r : R .list) : ZTyp K H a R := by
  rcases h with (h | ⟨o, h⟩) | ⟨o, its, n, h, c, _⟩
  · exact ⟨.list, .base (.lst h), r⟩
  · exact ⟨.list, .base (.frz h), r⟩
  · exact ⟨.list, .kList h c, r⟩
theorem ztyp_T {xs : List V} (h : SqT K H a xs) (r : R .tuple) : ZTyp K H a R := by
  rcases h with (h | ⟨o, h⟩) | ⟨o, its, n, h, c, _⟩
  · exact ⟨.tuple, .base (.tup h), r⟩
  · exact ⟨.tuple, .fTuple h, r⟩
  · exact ⟨.tuple, .kTuple h c, r⟩
end
/-! ### a def of the module, by its datum -/
theorem gfn_mk {m : Bool} {P : Program} {w : World} {K : PySem.W.Frag} {mg : Str → Option Value} {base : Heap} {x qual : Str} {params : Arguments} {body : List Stmt} {scope : Scope} {f : Addr} {N ps : List Str} {k : Nat} {sp : Sp} (hF : ∃ fd, FunD K x qual params body scope [] [] f fd) (hm : mg x = some (.ref f)) (S : FnScope N ps scope)
    (hb : ∀ (kV doc pm : Value) (an : Option Addr) (cdv ct : Value) (us : List Value), us.length = ps.length → bindArgs (PySem.W.fnOf x qual params body scope .none kV doc pm an cdv ct) ⟨us, []⟩ = pure (ps.zip us))
    (len : ∀ vs H Q E, sp vs H Q E → vs.length = ps.length)
    (hbody : ∀ (cdv : Value) (A : Around) (outer : List Env) (s : Shared) (H : Hp) (vs : List V) (Q : VK) (E : XK) (pn : List (Addr × Obj)), Cz m (bodyCx m P w K mg base N qual scope f cdv A outer s H E pn) (fun cls d _ H => E cls d H) k → sp vs H Q E →
      ∃ t, PSs (bodyCx m P w K mg base N qual scope f cdv A outer s H E pn) body t ∧ t { nx := fun _ H' => Q .non H', rt := Q } (start N vs) H) : GFn m P w K mg base (k + 1) x ps sp := by
  obtain ⟨fd, F⟩ := hF
  exact ⟨f, fd, fn_mk F S len hbody, hm, F.kp, F.bindsN hb⟩
/-! ### the step of a walk -/
theorem zif_p {c : Bool} {p A B : Prop} (e : c = true ↔ p) (t : p → A) (f : ¬ p → B) : ZIf (c = true) A B := ⟨fun h => t (e.mp h), fun h => f fun q => h (e.mpr q)⟩
theorem own_at {cs ds : List Chunk} {H : Hp} (h : Own cs H) (e : cs = ds) : Own ds H := e ▸ h
end Z

/-! ZHead: what the top leaves, told by a Hook of one's own: errors with super too -/
namespace Z
open PySem PySem.Spec PyProof.Rows L2
open He (ga ma ba)
/-! ### methods over a cell of their class -/
structure SupD where
  cls : Str
  meth : Str
  name : Str
  qual : Str
  params : Arguments
  body : List Stmt
  scope : Scope
abbrev FnS : Type := Option (Str × Str × Arguments × FuncBody × Scope × Addr × Addr)
def SupD.ad (K : PySem.W.Frag) (d : SupD) : Addr := ma K (ga K d.cls) d.meth
def fnS (K : PySem.W.Frag) (a : Addr) : FnS := match K.lookup a with
  | some ⟨_, _, .func fd, _⟩ => some (fd.name, fd.qualname, fd.params, fd.body, fd.scope, fd.globals, fd.builtins)
  | _ => none
def SupD.val (d : SupD) : FnS := some (d.name, d.qual, d.params, .stmts d.body, d.scope, mainGlobals, builtinsNs)
def noneB : Value → Bool
  | .none => true
  | _ => false
theorem noneB_ok {v : Value} (h : noneB v = true) : v = .none := by
  cases v <;> first | rfl | cases h
def fileB (P : Program) (K : PySem.W.Frag) (c : Addr) : Bool := match K.lookup c with
  | some ⟨_, _, .fields vs, _⟩ => (match (vs[2]? : Option Value) with
    | some (Value.str f _) => (P.main.file : Str) == f
    | _ => false)
  | _ => false
def cellB (K : PySem.W.Frag) (c D : Addr) : Bool := match K.lookup c with
  | some ⟨_, _, .cell (some (.ref E)), _⟩ => decide (E = D)
  | _ => false
def closB (P : Program) (K : PySem.W.Frag) (D : Addr) (q : Str) (fd : FuncData) : Bool := match fd.closure, fd.code with
  | [(n, cc)], .ref c => decide (n = ("__class__" : Str)) && (PySem.W.codeIn K (.ref c) q && (fileB P K c && cellB K cc D))
  | _, _ => false
def SupD.ok (P : Program) (K : PySem.W.Frag) (d : SupD) : Bool := match K.lookup (d.ad K) with
  | some ⟨oc, _, .func fd, _⟩ => decide (oc = .type "function") && (noneB fd.defaults && (noneB fd.kwdefaults && ((PySem.W.clsIn K (ga K d.cls)).isSome && closB P K (ga K d.cls) d.qual fd)))
  | _ => false
theorem fileB_ok {P : Program} {K : PySem.W.Frag} {c : Addr} (h : fileB P K c = true) : ∃ (cl : Value) (dd : Option Addr) (vs : Array Value) (sl : Array (Option Value)) (file : Str) (tf : Tok), K.lookup c = some ⟨cl, dd, .fields vs, sl⟩ ∧ vs[2]? = some (.str file tf) ∧ ((P.main.file : Str) == file) = true := by
  unfold fileB at h
  split at h
  · rename_i cl dd vs sl e
    split at h
    · rename_i f t e2
      exact ⟨_, _, _, _, _, _, e, e2, h⟩
    · cases h
  · cases h
theorem cellB_ok {K : PySem.W.Frag} {c D : Addr} (h : cellB K c D = true) : ∃ (cl : Value) (dd : Option Addr) (sl : Array (Option Value)), K.lookup c = some ⟨cl, dd, .cell (some (.ref D)), sl⟩ := by
  unfold cellB at h
  split at h
  · rename_i e
    rw [of_decide_eq_true h] at e
    exact ⟨_, _, _, e⟩
  · cases h
theorem supFn_ok {P : Program} {K : PySem.W.Frag} {d : SupD} (e : fnS K (d.ad K) = d.val) (h : d.ok P K = true) : ∃ cda cc fd, SupFn P K (ga K d.cls) (d.ad K) d.name d.qual d.params d.body d.scope cda cc fd := by
  unfold SupD.ok at h
  unfold fnS at e
  cases q : K.lookup (d.ad K) with
  | none =>
    rw [q] at h
    cases h
  | some o =>
    obtain ⟨oc, od, dt, osl⟩ := o
    rw [q] at h e
    cases dt with
    | func fd =>
      obtain ⟨n1, n2, n3, n4, n5, n6, n7, n8, n9, n10, n11, n12, n13, n14, n15⟩ := fd
      have e2 : (some (n1, n2, n3, n4, n5, n6, n15) : FnS) = some (d.name, d.qual, d.params, .stmts d.body, d.scope, mainGlobals, builtinsNs) := e
      simp only [Option.some.injEq, Prod.mk.injEq] at e2
      obtain ⟨h1, h2, h3, h4, h5, h6, h7⟩ := e2
      subst h1 h2 h3 h4 h5 h6 h7
      obtain ⟨k1, r1⟩ := ba h
      obtain ⟨k2, r2⟩ := ba r1
      obtain ⟨k3, r3⟩ := ba r2
      obtain ⟨k4, r4⟩ := ba r3
      have k2' : n8 = Value.none := noneB_ok k2
      have k3' : n9 = Value.none := noneB_ok k3
      clear h r1 r2 r3 k2 k3
      subst k2' k3'
      unfold closB at r4
      split at r4
      · rename_i n cc c q1 q2
        dsimp only at q1 q2
        subst q1 q2
        obtain ⟨g1, r5⟩ := ba r4
        obtain ⟨g2, r6⟩ := ba r5
        obtain ⟨g3, g4⟩ := ba r6
        have g1' := of_decide_eq_true g1
        subst g1'
        have ty : oc = Value.type "function" := of_decide_eq_true k1
        refine ⟨c, cc, _, ⟨⟨oc, od, _, _, _, _, osl, rfl, q⟩, g2, fileB_ok g3, cellB_ok g4, ?_, k4⟩⟩
        show (K.lookup (d.ad K)).map (fun o => o.cls) = _
        rw [q, ty]
        rfl
      · cases r4
    | _ => cases h
/-! ### own errors -/
def oexB (K : PySem.W.Frag) (C : Addr) : Bool := match K.lookup C with
  | some ⟨.type t, _, .cls cd, sl⟩ => (match cd.mro, sl.toList with
    | .ref C' :: bm, [_, _, _, _, some (.builtin n), _] => decide (t = "type") && (decide (C' = C) && (decide (n = "ValueError.__new__") && (!cd.hasDel && (cd.hasDict && PySem.HandSPX.refsVE bm))))
    | _, _ => false)
  | _ => false
theorem oexB_ok {K : PySem.W.Frag} {C : Addr} (h : oexB K C = true) : ∃ nm q N bs bm sn sub ab col dd k0 k1 k2 k3 k5, K.lookup C = some (excClassObj nm q C N bs bm true sn sub ab col dd k0 k1 k2 k3 k5 "ValueError.__new__") ∧ PySem.HandSPX.refsVE bm = true := by
  unfold oexB at h
  split at h
  · rename_i t dd cd sl e
    split at h
    · rename_i C' bm k0 k1 k2 k3 n k5 hm hs
      obtain ⟨h1, h⟩ := ba h
      obtain ⟨h2, h⟩ := ba h
      obtain ⟨h3, h⟩ := ba h
      obtain ⟨h4, h⟩ := ba h
      obtain ⟨h5, h6⟩ := ba h
      have h1' := of_decide_eq_true h1
      have h2' := of_decide_eq_true h2
      have h3' := of_decide_eq_true h3
      subst h1' h2' h3'
      obtain ⟨nm, bs, mro, ns, qn, hd, sn, sub, ab, col, del⟩ := cd
      dsimp only at hm h4 h5
      have h4' : del = false := by
        cases del with
        | false => rfl
        | true => cases h4
      subst hm h4' h5
      have hsl : sl = #[k0, k1, k2, k3, some (.builtin "ValueError.__new__"), k5] := by
        obtain ⟨l⟩ := sl
        simp only at hs
        rw [hs]
      subst hsl
      exact ⟨nm, qn, ns, bs, bm, sn, sub, ab, col, dd, k0, k1, k2, k3, k5, e, h6⟩
    · cases h
  · cases h
def eqV (a b : Option (Option Value)) : Bool := decide (a = b)
/-- the class C as an error -/
def erB (K : PySem.W.Frag) (C : Addr) : Bool :=
  oexB K C && (eqV (PySem.W.findIn K (.ref C) "__setattr__") (some (some (.builtin "object.__setattr__"))) && (decide (PySem.W.subIn K (.ref C) (.type "BaseException") = some true) && (decide (PySem.W.typeIn K (.ref C) = some (.type "type")) && PySem.W.keepIn K (.ref C))))
theorem erB_ok {K : PySem.W.Frag} {C : Addr} (h : erB K C = true) : OexC K C := by
  obtain ⟨h1, h⟩ := ba h
  obtain ⟨h2, h⟩ := ba h
  obtain ⟨h3, h⟩ := ba h
  obtain ⟨h4, h5⟩ := ba h
  exact ⟨oexB_ok h1, of_decide_eq_true h2, of_decide_eq_true h3, of_decide_eq_true h4, h5⟩
/-- super of a method of D, for an instance of C -/
def suB (K : PySem.W.Frag) (C D : Addr) (v : Value) : Bool :=
  decide (PySem.W.mroIn K C (.ref D) = some true) && (eqV (PySem.W.ks_superIn K C D "__init__") (some (some v)) && (decide (PySem.W.subIn K (.ref C) (.type "ValueError") = some true) && eqV (PySem.W.nsIn K cStatics "thirdparty.any") (some none)))
theorem suB_ok {P : Program} {K : PySem.W.Frag} {mg : Str → Option Value} {C D : Addr} {v : Value} (o : OexC K C) (h : suB K C D v = true) (sg : mg "super" = none) (top : (P.main.scope.names.lookup ("super" : Str)).isSome = false) : SupC P K mg C D v := by
  obtain ⟨h1, h⟩ := ba h
  obtain ⟨h2, h⟩ := ba h
  obtain ⟨h3, h4⟩ := ba h
  exact ⟨o, of_decide_eq_true h1, of_decide_eq_true h2, of_decide_eq_true h3, of_decide_eq_true h4, sg, top⟩
/-- isinstance of such an error -/
def isCB (K : PySem.W.Frag) (C : Addr) : Bool :=
  xfB K C && ((PySem.W.clsIn K C).isSome && (eqV (PySem.W.findIn K (.ref C) "__class__") (some (some (.builtin "object.__class__"))) && (eqV (PySem.W.specialIn K (.builtin "object.__class__") "__get__") (some (some (.builtin "getset_descriptor.__get__"))) && (decide (PySem.W.takesIn K (.builtin "object.__class__") = some true) && decide (PySem.W.mroIn K C (.type "object") = some true)))))
theorem isCB_ok {K : PySem.W.Frag} {C : Addr} (h : isCB K C = true) : IsC K C := by
  obtain ⟨h1, h⟩ := ba h
  obtain ⟨h2, h⟩ := ba h
  obtain ⟨h3, h⟩ := ba h
  obtain ⟨h4, h⟩ := ba h
  obtain ⟨h5, h6⟩ := ba h
  exact ⟨xfB_ok h1, h2, of_decide_eq_true h3, of_decide_eq_true h4, of_decide_eq_true h5, of_decide_eq_true h6⟩
/-- an error x whose __init__ is its own over the root r's, with these fields -/
def kidB (K : PySem.W.Frag) (x r : Str) (fs : List Str) : Bool :=
  erB K (ga K x) && (isCB K (ga K x) && (suB K (ga K x) (ga K x) (.ref (ma K (ga K r) "__init__")) && (suB K (ga K x) (ga K r) (.builtin "ValueError.__init__") && ((fs.all fun f => eqV (PySem.W.findIn K (.ref (ga K x)) f) (some none)) && (eqV (PySem.W.findIn K (.ref (ga K x)) "__init__") (some (some (.ref (ma K (ga K x) "__init__"))))
    && (decide (PySem.W.typeIn K (.ref (ma K (ga K x) "__init__")) = some (.type "function")) && (decide (PySem.W.typeIn K (.ref (ma K (ga K r) "__init__")) = some (.type "function")) && PySem.W.fnIn K (ma K (ga K r) "__init__"))))))))
structure Kid (K : PySem.W.Frag) (x r : Str) (fs : List Str) : Prop where
  o : OexC K (ga K x)
  is : IsC K (ga K x)
  s1 : suB K (ga K x) (ga K x) (.ref (ma K (ga K r) "__init__")) = true
  s2 : suB K (ga K x) (ga K r) (.builtin "ValueError.__init__") = true
  fs : ∀ f ∈ fs, PySem.W.findIn K (.ref (ga K x)) f = some none
  i : PySem.W.findIn K (.ref (ga K x)) "__init__" = some (some (.ref (ma K (ga K x) "__init__")))
  t1 : PySem.W.typeIn K (.ref (ma K (ga K x) "__init__")) = some (.type "function")
  t2 : PySem.W.typeIn K (.ref (ma K (ga K r) "__init__")) = some (.type "function")
  f2 : PySem.W.fnIn K (ma K (ga K r) "__init__") = true
theorem kidB_ok {K : PySem.W.Frag} {x r : Str} {fs : List Str} (h : kidB K x r fs = true) : Kid K x r fs := by
  obtain ⟨h1, h⟩ := ba h
  obtain ⟨h2, h⟩ := ba h
  obtain ⟨h3, h⟩ := ba h
  obtain ⟨h4, h⟩ := ba h
  obtain ⟨h5, h⟩ := ba h
  obtain ⟨h6, h⟩ := ba h
  obtain ⟨h7, h⟩ := ba h
  obtain ⟨h8, h9⟩ := ba h
  exact ⟨erB_ok h1, isCB_ok h2, h3, h4, fun f hf => of_decide_eq_true (List.all_eq_true.mp h5 f hf), of_decide_eq_true h6, of_decide_eq_true h7, of_decide_eq_true h8, h9⟩
section
variable {P : Program} {w : World} {K : PySem.W.Frag} {mg : Str → Option Value} {x r : Str} {qx qr nx nr : Str} {px pr : Arguments} {bx br : List Stmt} {sx sr : Scope} {f1 : Str} {fs : List Str} {psx psr : List Str} {ax ar : List Src} {stx : List (Str × Src)} {s1 : Src}
/-- x(..) makes the error -/
theorem kid_err (k : Kid K x r fs) (gx : mg x = some (.ref (ga K x))) (sg : mg "super" = none) (top : (P.main.scope.names.lookup ("super" : Str)).isSome = false)
    (Fx : ∃ cda cc fd, SupFn P K (ga K x) (ma K (ga K x) "__init__") nx qx px bx sx cda cc fd) (Fr : ∃ cda cc fd, SupFn P K (ga K r) (ma K (ga K r) "__init__") nr qr pr br sr cda cc fd)
    (Tx : InitTx psx ax stx px bx sx) (Tr : InitTx psr ar [(f1, s1)] pr br sr)
    (hbx : ∀ (doc pm : Value) (an : Option Addr) (cda : Addr) (ct : Value) (cc : Addr) (u : Value) (us : List Value), us.length = psx.length → bindArgs (PySem.W.ksFn nx qx px bx sx .none .none doc pm an (.ref cda) ct cc) ⟨u :: us, []⟩ = pure ((("self" : Str), u) :: psx.zip us))
    (hbr : ∀ (doc pm : Value) (an : Option Addr) (cda : Addr) (ct : Value) (cc : Addr) (u : Value) (us : List Value), us.length = psr.length → bindArgs (PySem.W.ksFn nr qr pr br sr .none .none doc pm an (.ref cda) ct cc) ⟨u :: us, []⟩ = pure ((("self" : Str), u) :: psr.zip us))
    (hf1 : f1 ∈ fs) (hfx : ∀ p ∈ stx, p.1 ∈ fs) (ha : ax.length = psr.length) (har : ar.length ≤ 100) (hst : stx.length ≤ 700) :
    ErrOk P w K mg x (ga K x) 2 psx.length (fun vs => stx.foldl (fun a p => (p.1, p.2.val vs) :: a) [(f1, s1.val (ax.map (Src.val vs)))]) := by
  obtain ⟨cda1, cc1, fd1, F1⟩ := Fx
  obtain ⟨cda2, cc2, fd2, F2⟩ := Fr
  have b1 : ∀ (u : Value) (us : List Value), us.length = psx.length → bindArgs fd1 ⟨u :: us, []⟩ = pure ((("self" : Str), u) :: psx.zip us) := by
    obtain ⟨_, _, doc, pm, an, ct, _, rfl, _⟩ := F1.lk
    exact hbx doc pm an cda1 ct cc1
  have b2 : ∀ (u : Value) (us : List Value), us.length = psr.length → bindArgs fd2 ⟨u :: us, []⟩ = pure ((("self" : Str), u) :: psr.zip us) := by
    obtain ⟨_, _, doc, pm, an, ct, _, rfl, _⟩ := F2.lk
    exact hbr doc pm an cda2 ct cc2
  have R : InitOk P w K mg (ga K x) (ma K (ga K r) "__init__") 1 psr.length (fun vs => [(f1, s1.val vs)]) := init_root F2 Tr b2 (suB_ok k.o k.s2 sg top) (k.fs f1 hf1) har
  have I := init_kid F1 Tx b1 (suB_ok k.o k.s1 sg top) (fun p hp => k.fs _ (hfx p hp)) R ha k.t2 k.f2 (fun ws => by show 1 + _ ≤ _; omega)
  exact ⟨k.o, gx, _, k.i, k.t1, I⟩
end
/-! ### defs at found places: getters, static and class methods -/
def prA (K : PySem.W.Frag) (C : Str) (f : Str) (i : Nat) : Addr := match PySem.W.recIn K (ma K (ga K C) f) "property" with
  | some l => (match l[i]? with
    | some (.ref g) => g
    | _ => 0)
  | none => 0
structure GetD where
  ad : PySem.W.Frag → Addr
  name : Str
  qual : Str
  params : Arguments
  body : List Stmt
  scope : Scope
def fnG (K : PySem.W.Frag) (a : Addr) : He.FnW := match K.lookup a with
  | some ⟨_, _, .func fd, _⟩ => some (fd.name, fd.qualname, fd.params, fd.body, fd.scope, fd.globals, fd.closure, fd.builtins)
  | _ => none
def GetD.val (d : GetD) : He.FnW := some (d.name, d.qual, d.params, .stmts d.body, d.scope, mainGlobals, [], builtinsNs)
def GetD.ok (K : PySem.W.Frag) (d : GetD) : Bool := PySem.W.keepIn K (.ref (d.ad K)) && (match K.lookup (d.ad K) with
  | some ⟨_, _, .func fd, _⟩ => PySem.W.codeIn K fd.code d.qual && (noneB fd.defaults && noneB fd.kwdefaults)
  | _ => false)
theorem getD_ok {K : PySem.W.Frag} {d : GetD} (e : fnG K (d.ad K) = d.val) (h : d.ok K = true) : ∃ fd, FunD K d.name d.qual d.params d.body d.scope [] [] (d.ad K) fd := by
  obtain ⟨kp, h⟩ := ba h
  unfold fnG at e
  cases q : K.lookup (d.ad K) with
  | none =>
    rw [q] at h
    cases h
  | some o =>
    obtain ⟨oc, od, dt, osl⟩ := o
    rw [q] at h e
    cases dt with
    | func fd =>
      obtain ⟨n1, n2, n3, n4, n5, n6, n7, n8, n9, n10, n11, n12, n13, n14, n15⟩ := fd
      have e2 : (some (n1, n2, n3, n4, n5, n6, n7, n15) : He.FnW) = some (d.name, d.qual, d.params, .stmts d.body, d.scope, mainGlobals, [], builtinsNs) := e
      simp only [Option.some.injEq, Prod.mk.injEq] at e2
      obtain ⟨h1, h2, h3, h4, h5, h6, h7, h8⟩ := e2
      subst h1 h2 h3 h4 h5 h6 h7 h8
      obtain ⟨k1, r1⟩ := ba h
      obtain ⟨k2, k3⟩ := ba r1
      have k2' : n8 = Value.none := noneB_ok k2
      have k3' : n9 = Value.none := noneB_ok k3
      clear h r1 k2 k3
      subst k2' k3'
      exact ⟨_, ⟨oc, od, _, _, n10, n11, n12, n13, n14, osl, rfl, q, k1, .inl ⟨rfl, rfl⟩, .inl rfl⟩, kp⟩
    | _ => cases h
/-- the property f of the class x, its getter -/
def propB (K : PySem.W.Frag) (x f : Str) : Bool :=
  eqV (PySem.W.findIn K (.ref (ga K x)) f) (some (some (.ref (ma K (ga K x) f)))) && (eqV (PySem.W.specialIn K (.ref (ma K (ga K x) f)) "__get__") (some (some (.builtin "property.__get__"))) && (decide (PySem.W.takesIn K (.ref (ma K (ga K x) f)) = some true)
    && (match PySem.W.recIn K (ma K (ga K x) f) "property" with
      | some (.ref g :: _) => decide (g = prA K x f 0)
      | _ => false)))
theorem propB_ok {K : PySem.W.Frag} {x f : Str} (h : propB K x f = true) : PropOf K (ga K x) f (ma K (ga K x) f) (prA K x f 0) := by
  obtain ⟨h1, h⟩ := ba h
  obtain ⟨h2, h⟩ := ba h
  obtain ⟨h3, h4⟩ := ba h
  refine ⟨of_decide_eq_true h1, of_decide_eq_true h2, of_decide_eq_true h3, ?_⟩
  split at h4
  · rename_i g rest e
    rw [of_decide_eq_true h4] at e
    exact ⟨rest, e⟩
  · cases h4
/-- what isinstance asks of a class of plain instances -/
def ownB (K : PySem.W.Frag) (C : Addr) : Bool :=
  eqV (PySem.W.findIn K (.ref C) "__class__") (some (some (.builtin "object.__class__"))) && (eqV (PySem.W.specialIn K (.builtin "object.__class__") "__get__") (some (some (.builtin "getset_descriptor.__get__"))) && (decide (PySem.W.takesIn K (.builtin "object.__class__") = some true) && (decide (PySem.W.mroIn K C (.type "object") = some true)
    && (decide (PySem.W.kitOne K (.ref C) (.ref C) = some true) && PySem.W.selfFirst K C))))
structure OwnI (K : PySem.W.Frag) (C : Addr) : Prop where
  ca : PySem.W.findIn K (.ref C) "__class__" = some (some (.builtin "object.__class__"))
  cn : PySem.W.specialIn K (.builtin "object.__class__") "__get__" = some (some (.builtin "getset_descriptor.__get__"))
  ct : PySem.W.takesIn K (.builtin "object.__class__") = some true
  cm : PySem.W.mroIn K C (.type "object") = some true
  ki : PySem.W.kitOne K (.ref C) (.ref C) = some true
  sf : PySem.W.selfFirst K C = true
theorem ownB_ok {K : PySem.W.Frag} {C : Addr} (h : ownB K C = true) : OwnI K C := by
  obtain ⟨h1, h⟩ := ba h
  obtain ⟨h2, h⟩ := ba h
  obtain ⟨h3, h⟩ := ba h
  obtain ⟨h4, h⟩ := ba h
  obtain ⟨h5, h6⟩ := ba h
  exact ⟨of_decide_eq_true h1, of_decide_eq_true h2, of_decide_eq_true h3, of_decide_eq_true h4, of_decide_eq_true h5, h6⟩
/-- a tuple of the top -/
def ktB (K : PySem.W.Frag) (x : Str) (vs : List He.Dv) : Bool := match K.lookup (ga K x) with
  | some ⟨.type c, none, .seq its _, _⟩ => decide (c = "tuple") && (decide (its.size ≤ sizeLine) && He.relAll (vs.map (He.Dv.v K)) its.toList)
  | _ => false
structure KTup (K : PySem.W.Frag) (p : Addr) (vs : List V) : Prop where
  sq : ∀ H, SqT K H p vs
  ty : ∀ H, tyV K "tuple" (.ref p) H
theorem ktB_ok {K : PySem.W.Frag} {x : Str} {vs : List He.Dv} (h : ktB K x vs = true) : KTup K (ga K x) (vs.map (He.Dv.v K)) := by
  unfold ktB at h
  split at h
  · rename_i c its n sl e
    obtain ⟨h1, h⟩ := ba h
    obtain ⟨h2, h3⟩ := ba h
    have h1' := of_decide_eq_true h1
    subst h1'
    exact ⟨fun H => .inr ⟨_, its, n, e, rfl, rfl, of_decide_eq_true h2, He.relAll_ok h3⟩, fun H => .inr (.inl ⟨rfl, _, e, rfl, rfl⟩)⟩
  · cases h
/-! ### the Hook -/
abbrev AlZ : Type := He.AlT × (Bool × (List FnS × List He.FnW))
def obsZ (P : Program) (fa : List He.Fa) (fn : List He.DefD) (ts : List He.Tab) (su : List SupD) (gd : List GetD) (ex : List (PySem.W.Frag → Bool)) (K : PySem.W.Frag) : AlZ := (He.obsT fa fn ts K, ((ex.all fun b => b K) && ((su.all fun d => d.ok P K) && gd.all fun d => d.ok K), (su.map fun d => fnS K (d.ad K), gd.map fun d => fnG K (d.ad K))))
def valZ (fn : List He.DefD) (ts : List He.Tab) (su : List SupD) (gd : List GetD) (w : World) : AlZ := (He.valT fn ts w, (true, (su.map SupD.val, gd.map GetD.val)))
def SaysZ (P : Program) (fa : List He.Fa) (fn : List He.DefD) (ts : List He.Tab) (su : List SupD) (gd : List GetD) (ex : List (PySem.W.Frag → Bool)) (w : World) (K : PySem.W.Frag) : Prop := obsZ P fa fn ts su gd ex K = valZ fn ts su gd w
def obsZG (P : Program) (n : Nat) (fa : List He.Fa) (fn : List He.DefD) (ts : List He.Tab) (su : List SupD) (gd : List GetD) (ex : List (PySem.W.Frag → Bool)) (g : Addr → Option Obj) : AlZ := obsZ P fa fn ts su gd ex (He.frG g (cStatics :: He.asD g n))
def hookZ (P : Program) (n : Nat) (fa : List He.Fa) (fn : List He.DefD) (ts : List He.Tab) (su : List SupD) (gd : List GetD) (ex : List (PySem.W.Frag → Bool)) : PySem.W.Hook where
  α := AlZ
  obs := fun s => obsZG P n fa fn ts su gd ex s.heap.get?
  val := fun w => valZ fn ts su gd w
  says := fun w h => ∃ K : PySem.W.Frag, K.In h ∧ SaysZ P fa fn ts su gd ex w K
  of := fun _ _ e => ⟨_, He.frG_in, e⟩
  keeps := fun _ _ _ ⟨K, hK, c⟩ k => ⟨K, PySem.W.Frag.In.keeps hK k, c⟩
theorem obsZG_eq {P : Program} {n : Nat} {fa : List He.Fa} {fn : List He.DefD} {ts : List He.Tab} {su : List SupD} {gd : List GetD} {ex : List (PySem.W.Frag → Bool)} {g : Addr → Option Obj} {s : Shared} (h : ∀ a, g a = s.heap.get? a) : obsZG P n fa fn ts su gd ex g = (hookZ P n fa fn ts su gd ex).obs s := by
  have e : g = s.heap.get? := funext h
  rw [e] <;> rfl
section
variable {P : Program} {w : World} {fa : List He.Fa} {fn : List He.DefD} {ts : List He.Tab} {su : List SupD} {gd : List GetD} {ex : List (PySem.W.Frag → Bool)} {K : PySem.W.Frag}
theorem SaysZ.t (c : SaysZ P fa fn ts su gd ex w K) : He.SaysT fa fn ts w K := congrArg (fun z : AlZ => z.1) c
theorem SaysZ.d (c : SaysZ P fa fn ts su gd ex w K) : He.SaysD fa fn K := c.t.d
theorem SaysZ.b (c : SaysZ P fa fn ts su gd ex w K) : ((ex.all fun b => b K) && ((su.all fun d => d.ok P K) && gd.all fun d => d.ok K)) = true := congrArg (fun z : AlZ => z.2.1) c
theorem SaysZ.e (c : SaysZ P fa fn ts su gd ex w K) (i : Nat) {b : PySem.W.Frag → Bool} (h : ex[i]? = some b := by rfl) : b K = true := List.all_eq_true.mp (ba c.b).1 b (List.mem_of_getElem? h)
theorem SaysZ.s (c : SaysZ P fa fn ts su gd ex w K) (i : Nat) {d : SupD} (h : su[i]? = some d := by rfl) : ∃ cda cc fd, SupFn P K (ga K d.cls) (ma K (ga K d.cls) d.meth) d.name d.qual d.params d.body d.scope cda cc fd := by
  have c2 := (ba (ba c.b).2).1
  have e : su.map (fun d => fnS K (d.ad K)) = su.map SupD.val := congrArg (fun z : AlZ => z.2.2.1) c
  have e2 : (su.map fun d => fnS K (d.ad K))[i]? = (su.map SupD.val)[i]? := by rw [e]
  rw [List.getElem?_map, List.getElem?_map, h] at e2
  exact supFn_ok (Option.some.inj e2) (List.all_eq_true.mp c2 d (List.mem_of_getElem? h))
theorem SaysZ.g (c : SaysZ P fa fn ts su gd ex w K) (i : Nat) {d : GetD} (h : gd[i]? = some d := by rfl) : ∃ fd, FunD K d.name d.qual d.params d.body d.scope [] [] (d.ad K) fd := by
  have c2 := (ba (ba c.b).2).2
  have e : gd.map (fun d => fnG K (d.ad K)) = gd.map GetD.val := congrArg (fun z : AlZ => z.2.2.2) c
  have e2 : (gd.map fun d => fnG K (d.ad K))[i]? = (gd.map GetD.val)[i]? := by rw [e]
  rw [List.getElem?_map, List.getElem?_map, h] at e2
  exact getD_ok (Option.some.inj e2) (List.all_eq_true.mp c2 d (List.mem_of_getElem? h))
end
end Z

/-! Z4: rules with K told, loops over texts -/
namespace Z
open PySem PySem.Spec PyProof.Rows L2
section
variable {m : Bool} {X : Cx} {W : WX} {k : Nat} {a b c e l : Expr} {es : List Expr} {ta tb te tl : TE} {t : TA} {pos : Pos} {rest body : List Stmt} (K : PySem.W.Frag) (hK : X.K = K)
include hK
theorem k_in : OpR X (compareOp .In) (zIn K false) := by
  subst hK
  exact zIn_ok
theorem k_notin : OpR X (compareOp .NotIn) (zIn K true) := by
  subst hK
  exact zNotIn_ok
theorem k_len : CallR X (.builtin "len") (zLen K) := by
  subst hK
  exact zLen_ok
theorem k_list : CallR X (.type "list") (zListF K) := by
  subst hK
  exact zListF_ok
theorem k_isT (tn : Tn) {x : Str} {p p2 : Pos} (hi : X.mg "isinstance" = none) (hm : X.mg x = none) (ha : PE X a ta) (hv : bootBuiltins x = some (.type tn.nm) := by decide +kernel) (hg : Gl X "isinstance" := by rfl) (hgx : Gl X x := by rfl) (hn : x ≠ "__name__" := by decide) (hdb : (x == ("__debug__" : Str)) = false := by decide)
    (he : starEach [a, .Name x p2] X.env = (false, eval a X.env) :: starEach [.Name x p2] X.env := by rfl) (he2 : starEach [.Name x p2] X.env = (false, eval (.Name x p2) X.env) :: starEach [] X.env := by rfl) (hpl : (backTo pos (starEach [.Name x p2] X.env)).any (·.1) = false := by rfl) :
    PE X (.Call (.Name "isinstance" p) [a, .Name x p2] [] pos) (zIsT K tn ta) := by
  subst hK
  exact z_isT tn hi hm ha hv hg hgx hn hdb he he2 hpl
theorem k_t (ha : PE X a ta) (he : ∀ whole, isTrue a X.env whole = (do let v ← whole; standAt a.pos; holding [v] (truthy v)) := by intro _; rfl) : PT X a (zT K ta) := by
  subst hK
  exact z_t ha he
theorem k_ix (ha : PE X a ta) (hb : PE X b tb) (hs : PlainIx b := by intro _ _; rfl) : PE X (.Subscript a b pos) (tOp (zIx K) ta tb) := by
  subst hK
  exact z_ix ha hb hs
theorem k_sl {lo hi : Option Expr} {tlo th : TO} {p2 : Pos} (he : PE X e te) (hl : PO X lo tlo) (hu : PO X hi th) : PE X (.Subscript e (.Slice lo hi none p2) pos) (tSl (zSlc K) te tlo th) := by
  subst hK
  exact z_sl he hl hu
theorem k_meth {o : Expr} {to : TE} {name : Str} {apos : Pos} {T id : String} {r : V → List V → Hp → VK → Prop} (pa : PlainAttrs T) (slot : Slot T name id) (hty : typeOf (.builtin id) = pure (.type "method_descriptor")) (hm : MtR X id r) (ho : PE X o to) (ha : PA X (e :: es) t)
    (hbase : attributeBase o name X.env (eval o X.env) = eval o X.env := by rfl)
    (hfew : ((backTo pos (starEach (e :: es) X.env)).all (fun x => !x.1) && (backToKw pos (keywordEach [] X.env)).all (fun x => x.1.isSome) && decide ((e :: es).length + ([] : List Keyword).length + (if ([] : List Keyword).isEmpty then 0 else 1) < 30)) = true := by rfl)
    (hline : (apos.endLine == pos.line) = true := by rfl) (hs : starEach (e :: es) X.env = (false, eval e X.env) :: starEach es X.env := by rfl) (hplain : (backTo pos (starEach es X.env)).any (·.1) = false := by rfl) : PE X (.Call (.Attribute o name apos) (e :: es) [] pos) (zMeth K T r to t) := by
  subst hK
  exact z_meth pa slot hty hm ho ha hbase hfew hline hs hplain
theorem k_meth0 {o : Expr} {to : TE} {name : Str} {apos : Pos} {T id : String} {r : V → List V → Hp → VK → Prop} (pa : PlainAttrs T) (slot : Slot T name id) (hty : typeOf (.builtin id) = pure (.type "method_descriptor")) (hm : MtR X id r) (ho : PE X o to)
    (hbase : attributeBase o name X.env (eval o X.env) = eval o X.env := by rfl) (hline : (apos.endLine == pos.line) = true := by rfl) : PE X (.Call (.Attribute o name apos) [] [] pos) (zMeth0 K T r to) := by
  subst hK
  exact z_meth0 pa slot hty hm ho hbase hline
theorem k_itS {tg : Expr} (hl : PE X l tl) : PI X tg l (zItS K tl) := by
  subst hK
  exact z_itS hl
theorem k_try {x n : Str} {cv : Value} {i : Nat} {suite : List Stmt} {b₀ : Stmt} {np pos' : Pos} {tb : WX → TS} {ts : Addr → Value → Option Addr → TS} (cz : Cz true X W k) (hN : X.N.Nodup) (hc : Names X x cv)
    (hb : ∀ (W' : WX) (pn : List (Addr × Obj)) (xe : Value → Shared → Prop), Cz true (X.tr pn xe) W' k → PSs (X.tr pn xe) body (tb W'))
    (hsu : ∀ (a : Addr) (oe : Obj) (cls : Value) (d : Option Addr) (pn : List (Addr × Obj)), L2N.Zn cls d oe → (∃ vs, oe.data = .fields vs) → Cz false (X.suite a ((a, oe) :: pn)) (fun _ _ _ _ => False) k → PSs (X.suite a ((a, oe) :: pn)) (b₀ :: suite) (ts a cls d))
    (hi : X.N[i]? = some n := by rfl) (hln : X.env.kindOf n = some .local := by rfl) :
    PS X (.Try body [.ExceptHandler (some (.Name x np)) (some n) (b₀ :: suite) pos'] [] [] pos) (fun D σ H => tb (zWas K cv i ts W D) D σ H) := by
  subst hK
  exact z_try cz hN hc hb hsu hi hln
end
/-- e.field of the error of a suite -/
def zXf (K : PySem.W.Frag) (a : Addr) (cls : Value) (d : Option Addr) (f : Str) (te : TE) : TE := fun σ H Q => te σ H fun x H1 => ZXf K a cls d f x H1 fun v => Q v H1
theorem k_xf (K : PySem.W.Frag) {X : Cx} {a : Addr} {oe : Obj} {cls : Value} {d : Option Addr} {pn : List (Addr × Obj)} {e : Expr} {te : TE} {pos : Pos} {f : Str} (hK : X.K = K) (hz : L2N.Zn cls d oe) (hf : ∃ vs, oe.data = .fields vs) (he : PE (X.suite a ((a, oe) :: pn)) e te) (hb : attributeBase e f X.env (eval e X.env) = eval e X.env := by rfl) :
    PE (X.suite a ((a, oe) :: pn)) (.Attribute e f pos) (zXf K a cls d f te) := by
  subst hK
  exact z_xf hz hf he hb
theorem k_isE (K : PySem.W.Frag) {X : Cx} {a : Addr} {oe : Obj} {cls : Value} {d : Option Addr} {pn : List (Addr × Obj)} (hK : X.K = K) (hz : L2N.Zn cls d oe) (hf : ∃ vs, oe.data = .fields vs) : CallR (X.suite a ((a, oe) :: pn)) (.builtin "isinstance") (zIsE K a cls d) := by
  subst hK
  exact zIsE_ok hz hf
/-! a list, a tuple, a text is walked -/
def zIt (K : PySem.W.Frag) (tl : TE) : TI := fun σ H R => tl σ H fun x H1 => match x with
  | .ref a => ZSq K H1 a fun b _ => match b with
    | true => R (Itl K a) H1
    | false => R (Itt K a) H1
  | .str z => R (Its z) H1
  | _ => False
theorem z_it {X : Cx} {tg l : Expr} {tl : TE} (hl : PE X l tl) : PI X tg l (zIt X.K tl) := by
  constructor
  intro pins s σ H R I h
  refine thn (hl.run pins s σ H _ I h) fun v s1 hh => ?_
  obtain ⟨x, H1, I1, r1, q1⟩ := hh
  cases x with
  | ref a =>
    cases r1
    have fp : ∀ (o : Obj), ∀ b ∈ [s1.heap.objs.size], FpOk X pins H1 b := fun o b hb => by
      rw [List.mem_singleton.mp hb]
      exact I1.fpOk (Nat.le_refl _) (I1.hok.fresh (Nat.le_refl _))
    obtain ⟨xs, ⟨hq, q⟩ | ⟨hq, q⟩⟩ := zsq_or q1
    · obtain ⟨its, rv, p, hz⟩ := I1.list hq
      exact wpAny_pyIter_list p.isList ⟨_, _, _, _, H1, rfl, I1.kept (t' := s1.toks) fun b o z => Heap.get?_push_of_some _ z, turn_list a _, ⟨_, Heap.get?_push_size _ rfl, rfl, rfl⟩, fp default, q⟩
    · obtain ⟨its, rv, p, hz⟩ := I1.tuple hq
      exact wpAny_pyIter_tuple (show s1.heap.IsTuple a its.toArray from p) ⟨_, _, _, _, H1, rfl, I1.kept (t' := s1.toks) fun b o z => Heap.get?_push_of_some _ z, turn_tuple a _, ⟨_, Heap.get?_push_size _ rfl, rfl, rfl⟩, fp default, q⟩
  | str z =>
    obtain ⟨tk, e⟩ := r1
    subst e
    have q2 : R (Its z) H1 := q1
    cases hc : z.cps.all (· < 128) with
    | false =>
      have tn := turn_str (P := X.prog) (w := X.w) (K := X.K) (tg := tg) s1.heap.objs.size z tk "str_iterator" (.inr rfl)
      exact wpAny_pyIter_wide hc (pi_one (tk := s1.toks) I1 _ tn ⟨_, Heap.get?_push_size _ rfl, rfl, rfl⟩ q2)
    | true =>
      have tn := turn_str (P := X.prog) (w := X.w) (K := X.K) (tg := tg) s1.heap.objs.size z tk "str_ascii_iterator" (.inl rfl)
      exact wpAny_pyIter_ascii hc (pi_one (tk := s1.toks) I1 _ tn ⟨_, Heap.get?_push_size _ rfl, rfl, rfl⟩ q2)
  | _ => exact q1.elim
theorem k_it (K : PySem.W.Frag) {X : Cx} {tg l : Expr} {tl : TE} (hK : X.K = K) (hl : PE X l tl) : PI X tg l (zIt K tl) := by
  subst hK
  exact z_it hl
theorem zloop_s {g : TG} {tb : TS} {z : Str} {D : Ends} {σ : St} {H : Hp} (Pv : Nat → St → Hp → Prop) (h0 : Pv 0 σ H)
    (hs : ∀ i c σ H, z.cps.toList[i]? = some c → Pv i σ H → g (.str ⟨#[c]⟩) σ H fun σ2 H2 => tb { D with nx := Pv (i + 1), ct := Pv (i + 1), bk := D.nx } σ2 H2)
    (hd : ∀ σ H, Pv z.cps.toList.length σ H → D.nx σ H) : ZLoop (Its z) g tb D σ H := by
  refine ⟨⟨fun i m σ H => m = z.cps.size - i ∧ i ≤ z.cps.size ∧ Pv i σ H, ⟨_, rfl, Nat.zero_le _, h0⟩, fun i m σ H ⟨hm, hi, p⟩ => ?_⟩⟩
  by_cases hlt : i < z.cps.size
  · refine .inr ⟨hlt, Pv (i + 1), fun σ' H' q => ⟨_, ?_, rfl, hlt, q⟩, fun x H' hy => ?_⟩
    · omega
    · obtain ⟨rfl, c, hc, rfl⟩ := hy
      refine hs i c σ _ ?_ p
      rw [← hc]
      simp
  · have e : i = z.cps.toList.length := by
      rw [Array.length_toList]
      omega
    refine .inl ⟨by show z.cps.size ≤ i; omega, hd σ H ?_⟩
    rw [← e]
    exact p

end Z
namespace Z
open L2
theorem zcmul_r {i j : Int} (h : j.natAbs < 2 ^ 64) : CMul i j := .inr (by omega)
end Z
namespace Z
open PySem PySem.Spec PyProof.Rows L2
theorem zsq_L {K : PySem.W.Frag} {H : Hp} {a : Addr} {xs : List V} {R : Bool → List V → Prop} (h : SqL K H a xs) (r : R true xs) : ZSq K H a R := ⟨true, xs, h, r⟩
theorem zsq_T {K : PySem.W.Frag} {H : Hp} {a : Addr} {xs : List V} {R : Bool → List V → Prop} (h : SqT K H a xs) (r : R false xs) : ZSq K H a R := ⟨false, xs, h, r⟩
theorem atI_nat {α : Type} {xs : List α} {i : Nat} {x : α} (h : xs[i]? = some x) : atI xs (i : Int) = some x := by
  have hlt := (List.getElem?_eq_some_iff.mp h).1
  unfold atI ixN
  rw [if_pos (by omega), if_pos (by omega), Option.bind_some, Int.toNat_natCast, h]
theorem atI_0 {α : Type} {xs : List α} {i : Nat} {x : α} (h : xs[i]? = some x) : atI xs (0 + (i : Int)) = some x := by
  rw [Int.zero_add]
  exact atI_nat h
end Z
namespace Z
theorem zcmul_l {i j : Int} (h : i.natAbs < 2 ^ 64) : L2.CMul i j := .inl (by omega)
end Z
namespace Z
open PySem PySem.Spec PyProof.Rows L2
section
variable {K : PySem.W.Frag} {H : Hp} {cs : List Chunk} {a dd C : Addr} {fs : List (Str × V)}
theorem zise {c : V} {u : Value} {b : Bool} {R : Bool → Prop} (h : Own cs H) (m : pt dd (.xd fs) ∈ cs) (is : IsC K C) (ck : ClsV c u) (e : PySem.W.kitOne K (.ref C) u = some b) (r : R b) : ZIsE K a (.ref C) (some dd) (.ref a) c H R := ⟨C, dd, fs, u, b, rfl, rfl, is, rfl, h.get m, ck, e, r⟩
theorem zxf {f : Str} {v : V} {R : V → Prop} (h : Own cs H) (m : pt dd (.xd fs) ∈ cs) (is : IsC K C) (n : PySem.W.findIn K (.ref C) f = some none) (l : fs.lookup f = some v) (r : R v) : ZXf K a (.ref C) (some dd) f (.ref a) H R := ⟨C, dd, fs, v, rfl, rfl, is.xf, n, rfl, h.get m, l, r⟩
theorem zexm {cls c : Value} {b : Bool} {R : Bool → Prop} (e : PySem.W.exmOne K cls c = some b) (r : R b) : ZExm K cls c R := ⟨b, e, r⟩
end
end Z
namespace Z
open PySem PySem.Spec PyProof.Rows L2
/-- a def that lets nothing out, whatever is told of errors -/
theorem fn_quiet {P : Program} {w : World} {K : PySem.W.Frag} {mg : Str → Option Value} {base : Heap} {k : Nat} {f : Addr} {fd : FuncData} {ps : List Str} {sp : Sp} (F : Fn true P w K mg base k f fd ps sp) (hE : ∀ vs H Q E, sp vs H Q E → sp vs H Q fun _ _ _ => False) : FnOk P w K mg base CX0 k f fd ps sp := by
  have F' : FnOk P w K mg base (L2N.CX P w) k f fd ps sp := F
  refine ⟨F'.len, fun A outer s H args us vs Q E hr h0 hb hv hs => codeAny_mono (F'.run A outer s H args us vs Q (fun _ _ _ => False) hr h0 hb hv (hE _ _ _ _ hs)) fun r s' q => ?_⟩
  cases r with
  | ok v =>
    cases v with
    | ret u => exact q
    | _ => exact q.elim
  | error e =>
    obtain ⟨_, _, _, _, _, _, _, _, _, _, _, _, z⟩ := q
    exact z.elim
end Z

/-! ZCls: own classes: instances, methods, properties, own operators -/
namespace Z
open PySem PySem.Spec PyProof.Rows L2
/-- a def at an address, all parameters given -/
structure MFn (P : Program) (w : World) (K : PySem.W.Frag) (mg : Str → Option Value) (base : Heap) (k : Nat) (g : Addr) (ps : List Str) (sp : Sp) : Prop where
  ex : ∃ fd, FnOk P w K mg base (L2N.CX P w) k g fd ps sp ∧ Binds K fd ps []
section
variable {X : Cx} {W : WX} {k : Nat} {pins : List (Addr × Obj)} {σ : L2.St} {H : Hp} {s : Shared} {Q : VK} {us : List Value} {vs : List V} {g C : Addr} {ps : List Str} {sp : Sp}
/-- the callee runs below the running body -/
theorem mrun {A : Around} (F : MFn X.prog X.w X.K X.mg X.base k g ps sp) (hr : Room k A) (e0 : Env0 X.prog X.w X.K X.mg X.base A X.stack s H) (tk : L2N.Takes X W) (I : Inv X pins σ H s) (r : Vals vs us) (h : sp vs H Q fun cls d H' => W cls d σ H') :
    codeAny (model X.prog X.w) A (.call (.ref g) ⟨us, []⟩) (fun r s' => match r with | .ok (.ret v) => EP X pins σ Q v s' | .ok _ => False | .error e => X.xe e s') s := by
  obtain ⟨fd, F, hb⟩ := F.ex
  have hl : (us ++ ([] : List Value)).length = ps.length := by rw [List.append_nil, ← r.length]; exact F.len _ _ _ _ h
  have b := hb s us I.kIn hl
  rw [List.append_nil] at b
  refine codeAny_mono (F.run A X.stack s H ⟨us, []⟩ us vs Q _ hr e0 b r h) fun r s' hq => ?_
  cases r with
  | error e => exact L2N.passAt tk σ pins H s e s' I hq
  | ok fl => cases fl <;> first | exact I.after hq | exact False.elim hq
theorem mcall (F : MFn X.prog X.w X.K X.mg X.base k g ps sp) (hr : Room k X.A) (tk : L2N.Takes X W) (I : Inv X pins σ H s) (r : Vals vs us) (h : sp vs H Q fun cls d H' => W cls d σ H') :
    wpAny (model X.prog X.w) X.A (call (.ref g) us) (EP X pins σ Q) X.xe s := wpAny_call (mrun F hr I.env0 tk I r h)
end
/-! ### instances are made -/
structure ZMake (H : Hp) (C : Addr) (R : Addr → Hp → Prop) : Prop where
  out : ∀ x dx, H x = none → H dx = none → dx ≠ x → R x (upd (upd H dx (.own x)) x (.ins C dx []))
theorem zmake {H : Hp} {C : Addr} {cs : List Chunk} {R : Addr → Hp → Prop} (h : Own cs H) (r : ∀ x dx H', Own (pt x (.ins C dx []) :: pt dx (.own x) :: cs) H' → R x H') : ZMake H C R :=
  ⟨fun x dx nx nd ne => r x dx _ ((h.new nd).new (by rw [upd_ne ne.symm]; exact nx))⟩
def zMake (C : Addr) (sp : Sp) (W : WX) (t : TA) : TE := fun σ H Q => t σ H fun vs H1 => ZMake H1 C fun x H2 => ZCall sp (.ref x :: vs) H2 (fun v H3 => v = .non ∧ Q (.ref x) H3) fun cls d H' => W cls d σ H'
section
variable {m : Bool} {X : Cx} {W : WX} {k j : Nat} {e o a b : Expr} {es : List Expr} {ta tb te : TE} {t : TA} {p pos apos : Pos} {g C : Addr} {ps : List Str} {sp : Sp}
theorem z_make {x : Str} (cz : Cz true X W k) (M : Mk X.K C g) (F : MFn X.prog X.w X.K X.mg X.base j g ps sp) (hj : j + 1 ≤ k) (hm : X.mg x = some (.ref C)) (ha : PA X (e :: es) t) (hg : Gl X x := by rfl) (hdb : (x == ("__debug__" : Str)) = false := by decide)
    (he : starEach (e :: es) X.env = (false, eval e X.env) :: starEach es X.env := by rfl) (hpl : (backTo pos (starEach es X.env)).any (·.1) = false := by rfl) : PE X (.Call (.Name x p) (e :: es) [] pos) (zMake C sp W t) := by
  have hr : Room (j + 1) X.A := cz.room.mono hj
  constructor
  intro pins s σ H Q I h
  refine wpAny_Call_Name_kw (ld_glob I hg hm ?_ hdb)
  refine PySem.W.callWith_K (h₀ := X.base) I.ok.mod.kin M.kp (thn (ha.run pos pins s σ H _ I h) fun us s1 hh => ?_) he hpl
  obtain ⟨vs, H1, I1, r, q⟩ := hh
  refine ⟨I1.kIn, ?_⟩
  have q2 := (q.out (s1.heap.objs.size + 1) s1.heap.objs.size (I1.hok.fresh (Nat.le_succ _)) (I1.hok.fresh (Nat.le_refl _)) (Nat.ne_of_lt (Nat.lt_succ_self _))).out
  have I2 := Inv.made (C := C) I1
  refine wpAny_call (make_map (f := g) I1.kIn M.makes M.init (beq_iff_eq.mp M.fn) (codeAny_mono (mrun F (hr.make C us []) (I2.env0.make C us []) cz.tk I2 (.cons (show L2.RelV (.ref (s1.heap.objs.size + 1)) (.ref (s1.heap.objs.size + 1)) from rfl) r) q2) fun r2 s2 z => ?_))
  cases r2 with
  | error er => exact z
  | ok fl =>
    cases fl <;> first | exact z.elim | skip
    obtain ⟨v, H3, I3, rv, ev, q3⟩ := z
    subst ev
    exact ⟨rv, .ref (s1.heap.objs.size + 1), H3, I3, rfl, q3⟩
/-! ### attributes -/
structure ZFl (K : PySem.W.Frag) (C : Addr) (f : Str) (fs : List (Str × V)) (R : V → Prop) : Prop where
  out : Cls K C ∧ NoAttr K C f ∧ ∃ v, fs.lookup f = some v ∧ R v
def zIns (x : V) (H : Hp) (R : Addr → Addr → Addr → List (Str × V) → Prop) : Prop := match x with
  | .ref a => ZGet H a fun o => match o with
    | .ins C dx fs => R a C dx fs
    | _ => False
  | _ => False
theorem zIns_of {x : V} {H : Hp} {R : Addr → Addr → Addr → List (Str × V) → Prop} (h : zIns x H R) : ∃ a C dx fs, x = .ref a ∧ H a = some (.ins C dx fs) ∧ R a C dx fs := by
  cases x with
  | ref a =>
    obtain ⟨o, e, q⟩ := ZGet.out h
    cases o with
    | ins C dx fs => exact ⟨a, C, dx, fs, rfl, e, q⟩
    | _ => exact q.elim
  | _ => exact h.elim
def zFld (K : PySem.W.Frag) (f : Str) (ta : TE) : TE := fun σ H Q => ta σ H fun x H1 => zIns x H1 fun _ C _ fs => ZFl K C f fs fun v => Q v H1
theorem z_fld {f : Str} (K : PySem.W.Frag) (hK : X.K = K) (he : PE X e ta) (hb : attributeBase e f X.env (eval e X.env) = eval e X.env := by rfl) : PE X (.Attribute e f pos) (zFld K f ta) := by
  subst hK
  constructor
  intro pins s σ H Q I h
  refine attr_of hb (thn (he.run pins s σ H _ I h) fun u s1 hh => ?_)
  obtain ⟨x, H1, I1, rx, q⟩ := hh
  obtain ⟨a, C, dx, fs, ex, ea, q2⟩ := zIns_of q
  obtain ⟨c, n, v, l, q3⟩ := q2.out
  subst ex
  cases (show u = Value.ref a from rx)
  exact getattr_ok I1 ea c n l fun u' s2 I2 ru => ⟨v, H1, I2, ru, q3⟩
/-- a constant of the class, by an instance -/
structure ZCn (K : PySem.W.Frag) (C : Addr) (f : Str) (fs : List (Str × V)) (R : V → Prop) : Prop where
  out : Cls K C ∧ fs.lookup f = none ∧ ∃ v u, Con K C f v u ∧ R v
def zCn (K : PySem.W.Frag) (f : Str) (ta : TE) : TE := fun σ H Q => ta σ H fun x H1 => zIns x H1 fun _ C _ fs => ZCn K C f fs fun v => Q v H1
theorem z_cn {f : Str} (K : PySem.W.Frag) (hK : X.K = K) (he : PE X e ta) (hb : attributeBase e f X.env (eval e X.env) = eval e X.env := by rfl) : PE X (.Attribute e f pos) (zCn K f ta) := by
  subst hK
  constructor
  intro pins s σ H Q I h
  refine attr_of hb (thn (he.run pins s σ H _ I h) fun u s1 hh => ?_)
  obtain ⟨x, H1, I1, rx, q⟩ := hh
  obtain ⟨a, C, dx, fs, ex, ea, q2⟩ := zIns_of q
  obtain ⟨c, l, v, u0, k, q3⟩ := q2.out
  subst ex
  cases (show u = Value.ref a from rx)
  exact getcon_ok I1 ea c k l fun s2 I2 => ⟨v, H1, I2, k.rel, q3⟩
structure ZFs (K : PySem.W.Frag) (C : Addr) (f : Str) (fs : List (Str × V)) (R : Prop) : Prop where
  out : Cls K C ∧ NoAttr K C f ∧ fs.length < 1000 ∧ R
def zFset (K : PySem.W.Frag) (f : Str) (ta tv : TE) : TS := fun D σ H => tv σ H fun y H1 => ta σ H1 fun x H2 => zIns x H2 fun a C dx fs => ZFs K C f fs (ZSet H2 a (.ins C dx (putF f y fs)) fun H3 => D.nx σ H3)
theorem z_fset {f : Str} {pos' : Pos} {value : Expr} {tv : TE} (K : PySem.W.Frag) (hK : X.K = K) (ha : PE X o ta) (hv : PE X value tv) (hs : swapsWith value (some (.Attribute o f pos')) pos.line X.env = pure false := by rfl) : PS X (.Assign [.Attribute o f pos'] value pos) (zFset K f ta tv) := by
  subst hK
  constructor
  intro pins s σ H D I h
  refine plainObj_wpAny_Assign_Attribute (thn (hv.run pins s σ H _ I h) fun u s1 hh => ?_) hs
  obtain ⟨y, H1, I1, ry, q⟩ := hh
  refine thn (ha.run pins s1 σ H1 _ I1 q) fun ov s2 hh => ?_
  obtain ⟨x, H2, I2, rx, q⟩ := hh
  obtain ⟨a, C, dx, fs, ex, ea, q2⟩ := zIns_of q
  obtain ⟨c, n, l, q3⟩ := q2.out
  subst ex
  cases (show ov = Value.ref a from rx)
  exact setattr_ok I2 ea c n l ry fun s3 I3 => ⟨σ, _, I3, q3.out⟩
/-! ### methods -/
structure ZMt (C C' : Addr) (m : Str) (fs : List (Str × V)) (R : Prop) : Prop where
  out : C' = C ∧ fs.lookup m = none ∧ R
def zMth (C : Addr) (n : Str) (sp : Sp) (W : WX) (ta : TE) (t : TA) : TE := fun σ H Q => ta σ H fun x H1 => zIns x H1 fun a C' _ fs => ZMt C C' n fs (t σ H1 fun vs H2 => ZCall sp (.ref a :: vs) H2 Q fun cls d H' => W cls d σ H')
theorem z_mth {n : Str} {pl : Sem Bool} (cz : Cz true X W k) (c : Cls X.K C) (hm : Meth X.K C n g) (F : MFn X.prog X.w X.K X.mg X.base j g ps sp) (hj : j ≤ k) (he : PE X o ta) (ha : PA X (e :: es) t)
    (hst : starEach (e :: es) X.env = (false, eval e X.env) :: starEach es X.env := by rfl) (hpl : (backTo pos (starEach es X.env)).any (·.1) = false := by rfl)
    (ht : eval (.Call (.Attribute o n apos) (e :: es) [] pos) X.env = (do
      let ov ← eval o X.env
      standAt apos.atName
      let (f, first) ← holding [ov] (getMethod ov n pl)
      callWith pos f first (backTo pos (starEach (e :: es) X.env)) (backToKw pos (keywordEach [] X.env))) := by rfl) : PE X (.Call (.Attribute o n apos) (e :: es) [] pos) (zMth C n sp W ta t) := by
  constructor
  intro pins s σ H Q I h
  refine PySem.W.methodCall_KW (pl := pl) (thn (he.run pins s σ H _ I h) fun u s1 hh => ?_) ht
  obtain ⟨x, H1, I1, rx, q⟩ := hh
  obtain ⟨a, C', dx, fs, ex, ea, q3⟩ := zIns_of q
  obtain ⟨eC, l, q4⟩ := q3.out
  subst ex eC
  cases (show u = Value.ref a from rx)
  refine getmeth_ok I1 ea c hm l ?_
  refine PySem.W.callWith_K (first := [.ref a]) (h₀ := X.base) I.ok.mod.kin hm.kp (thn (ha.run pos pins s1 σ H1 _ I1 q4) fun us s2 hh => ?_) hst hpl
  obtain ⟨vs, H2, I2, r, q2⟩ := hh
  exact ⟨I2.kIn, mcall F (cz.room.mono hj) cz.tk I2 (.cons (show L2.RelV (.ref a) (.ref a) from rfl) r) q2.out⟩
theorem z_mth0 {n : Str} {pl : Sem Bool} (cz : Cz true X W k) (c : Cls X.K C) (hm : Meth X.K C n g) (F : MFn X.prog X.w X.K X.mg X.base j g ps sp) (hj : j ≤ k) (he : PE X o ta)
    (ht : eval (.Call (.Attribute o n apos) [] [] pos) X.env = (do
      let ov ← eval o X.env
      standAt apos.atName
      let (f, first) ← holding [ov] (getMethod ov n pl)
      callWith pos f first (backTo pos (starEach [] X.env)) (backToKw pos (keywordEach [] X.env))) := by rfl) : PE X (.Call (.Attribute o n apos) [] [] pos) (zMth C n sp W ta tNil) := by
  constructor
  intro pins s σ H Q I h
  refine PySem.W.methodCall_KW (pl := pl) (thn (he.run pins s σ H _ I h) fun u s1 hh => ?_) ht
  obtain ⟨x, H1, I1, rx, q⟩ := hh
  obtain ⟨a, C', dx, fs, ex, ea, q3⟩ := zIns_of q
  obtain ⟨eC, l, q4⟩ := q3.out
  subst ex eC
  cases (show u = Value.ref a from rx)
  refine getmeth_ok I1 ea c hm l ?_
  have q2 : ZCall sp [V.ref a] H1 Q fun cls d H' => W cls d σ H' := q4
  exact PySem.W.callWith_K0 (first := [.ref a]) I1.kIn hm.kp (mcall (us := [.ref a]) F (cz.room.mono hj) cz.tk I1 (.cons (show L2.RelV (.ref a) (.ref a) from rfl) .nil) q2.out)
/-- a property -/
def zPrp (C : Addr) (sp : Sp) (ta : TE) : TE := fun σ H Q => ta σ H fun x H1 => zIns x H1 fun a C' _ _ => ZSide (C' = C) (ZCall sp [.ref a] H1 Q fun _ _ _ => False)
theorem z_prp {f : Str} {pr : Addr} (cz : Cz true X W k) (c : Cls X.K C) (hp : PropOf X.K C f pr g) (F : MFn X.prog X.w X.K X.mg X.base j g ps sp) (hj : j + 1 ≤ k) (he : PE X e ta) (hb : attributeBase e f X.env (eval e X.env) = eval e X.env := by rfl) : PE X (.Attribute e f pos) (zPrp C sp ta) := by
  obtain ⟨fd, F, hbi⟩ := F.ex
  constructor
  intro pins s σ H Q I h
  refine attr_of hb (thn (he.run pins s σ H _ I h) fun u s1 hh => ?_)
  obtain ⟨x, H1, I1, rx, q⟩ := hh
  obtain ⟨a, C', dx, fs, ex, ea, q3⟩ := zIns_of q
  obtain ⟨eC, q4⟩ := q3
  subst ex eC
  cases (show u = Value.ref a from rx)
  refine getprop_ok (dvs := []) (E := fun _ _ _ => False) I1 ea c hp F (cz.room.mono hj) hbi .nil (fun pins σ H s er s' I z => ?_) q4.out
  obtain ⟨_, _, _, _, _, _, _, _, _, _, _, _, z⟩ := z
  exact z.elim
end
/-! ### a method by its datum -/
theorem mfn_mk {P : Program} {w : World} {K : PySem.W.Frag} {mg : Str → Option Value} {base : Heap} {x qual : Str} {params : Arguments} {body : List Stmt} {scope : Scope} {f : Addr} {N ps : List Str} {k : Nat} {sp : Sp} (hF : ∃ fd, FunD K x qual params body scope [] [] f fd) (S : FnScope N ps scope)
    (hb : ∀ (kV doc pm : Value) (an : Option Addr) (cdv ct : Value) (us : List Value), us.length = ps.length → bindArgs (PySem.W.fnOf x qual params body scope .none kV doc pm an cdv ct) ⟨us, []⟩ = pure (ps.zip us))
    (len : ∀ vs H Q E, sp vs H Q E → vs.length = ps.length)
    (hbody : ∀ (cdv : Value) (A : Around) (outer : List Env) (s : Shared) (H : Hp) (vs : List V) (Q : VK) (E : XK) (pn : List (Addr × Obj)), Cz true (bodyCx true P w K mg base N qual scope f cdv A outer s H E pn) (fun cls d _ H => E cls d H) k → sp vs H Q E →
      ∃ t, PSs (bodyCx true P w K mg base N qual scope f cdv A outer s H E pn) body t ∧ t { nx := fun _ H' => Q .non H', rt := Q } (start N vs) H) : MFn P w K mg base (k + 1) f ps sp := by
  obtain ⟨fd, F⟩ := hF
  exact ⟨fd, fn_mk F S len hbody, F.bindsN hb⟩
theorem k_isi (K : PySem.W.Frag) {X : Cx} (hK : X.K = K) : CallR X (.builtin "isinstance") (zIsi K) := by
  subst hK
  exact zIsi_ok
theorem zisi_own {K : PySem.W.Frag} {H : Hp} {cs : List Chunk} {a C dx : Addr} {fs : List (Str × V)} {R : Bool → Prop} (h : Own cs H) (m : pt a (.ins C dx fs) ∈ cs) (c : Cls K C) (i : OwnI K C) (r : R true) : ZIsi K (.ref a) H (.ref C) R :=
  ⟨.ref C, .ref C, true, .own C, .base (.ins (h.get m) c i.ca i.cn i.ct i.cm), i.ki, r⟩
/-! ### own operators -/
section
variable {X : Cx} {W : WX} {k j : Nat} {a b : Expr} {ta tb : TE} {pos : Pos} {g C : Addr} {ps : List Str} {sp : Sp}
theorem inst_of {pins : List (Addr × Obj)} {σ : L2.St} {H : Hp} {s : Shared} {x C dx : Addr} {fs : List (Str × V)} (I : Inv X pins σ H s) (e : H x = some (.ins C dx fs)) : ∃ ox od, PySem.W.InstAt s.heap x ox C (some od) := by
  obtain ⟨mA, O, _⟩ := ins_get I.hok e
  obtain ⟨od, J, _⟩ := O.look
  exact ⟨_, od, J⟩
def zUnO (C : Addr) (sp : Sp) (W : WX) (ta : TE) : TE := fun σ H Q => ta σ H fun x H1 => zIns x H1 fun p C' _ _ => ZSide (C' = C) (ZCall sp [.ref p] H1 Q fun cls d H' => W cls d σ H')
theorem z_neg (cz : Cz true X W k) (hm : Meth X.K C "__neg__" g) (F : MFn X.prog X.w X.K X.mg X.base j g ps sp) (hj : j ≤ k) (ha : PE X a ta) : PE X (.UnaryOp .USub a pos) (zUnO C sp W ta) := by
  constructor
  intro pins s σ H Q I h
  refine UnaryOp_ (thn (ha.run pins s σ H _ I h) fun v s1 hh => ?_)
  obtain ⟨x, H1, I1, rx, q⟩ := hh
  obtain ⟨p, C', dx, fs, ex, ea, q2⟩ := zIns_of q
  obtain ⟨eC, q3⟩ := q2
  subst ex eC
  cases (show v = Value.ref p from rx)
  obtain ⟨ox, od, J⟩ := inst_of I1 ea
  obtain ⟨m, hF⟩ := I1.fr
  exact PySem.W.ksp_neg hF I1.ok.mod.kin J hm.at_ hm.fn (mcall (us := [.ref p]) F (cz.room.mono hj) cz.tk I1 (.cons (show L2.RelV (.ref p) (.ref p) from rfl) .nil) q3.out)
theorem z_inv (cz : Cz true X W k) (hm : Meth X.K C "__invert__" g) (F : MFn X.prog X.w X.K X.mg X.base j g ps sp) (hj : j ≤ k) (ha : PE X a ta) : PE X (.UnaryOp .Invert a pos) (zUnO C sp W ta) := by
  constructor
  intro pins s σ H Q I h
  refine UnaryOp_ (thn (ha.run pins s σ H _ I h) fun v s1 hh => ?_)
  obtain ⟨x, H1, I1, rx, q⟩ := hh
  obtain ⟨p, C', dx, fs, ex, ea, q2⟩ := zIns_of q
  obtain ⟨eC, q3⟩ := q2
  subst ex eC
  cases (show v = Value.ref p from rx)
  obtain ⟨ox, od, J⟩ := inst_of I1 ea
  obtain ⟨m, hF⟩ := I1.fr
  exact PySem.W.ksp_inv hF I1.ok.mod.kin J hm.at_ hm.fn (mcall (us := [.ref p]) F (cz.room.mono hj) cz.tk I1 (.cons (show L2.RelV (.ref p) (.ref p) from rfl) .nil) q3.out)
/-- an operator with a value of a built-in type on the right -/
structure OpT (K : PySem.W.Frag) (C : Addr) (op : Operator) (T : String) (g : Addr) : Prop where
  sf : PySem.W.selfFirst K C = true
  hs : PySem.W.findIn K (.ref C) (PySem.dunder op.info.2) = some (some (.ref g))
  fn : PySem.W.isFn K (.ref g) = true
  hr : ∃ rc, PySem.W.findIn K (.ref C) (dunderR op.info.2) = some rc ∧ (rc = none ∨ ∃ g : Addr, rc = some (.ref g))
  h1 : ∃ fo, PySem.W.findIn K (.type T) (PySem.dunder op.info.2) = some fo
  h2 : ∃ ro, PySem.W.findIn K (.type T) (dunderR op.info.2) = some ro
  sub : PySem.W.subIn K (.type T) (.ref C) = some false
def rcB : Option (Option Value) → Bool
  | some none => true
  | some (some (.ref _)) => true
  | _ => false
theorem rcB_ok {o : Option (Option Value)} (h : rcB o = true) : ∃ rc, o = some rc ∧ (rc = none ∨ ∃ g : Addr, rc = some (.ref g)) := by
  unfold rcB at h
  split at h
  · exact ⟨_, rfl, .inl rfl⟩
  · exact ⟨_, rfl, .inr ⟨_, rfl⟩⟩
  · cases h
def opTB (K : PySem.W.Frag) (C : Addr) (op : Operator) (T : String) (g : Addr) : Bool :=
  PySem.W.selfFirst K C && (eqV (PySem.W.findIn K (.ref C) (PySem.dunder op.info.2)) (some (some (.ref g))) && (PySem.W.isFn K (.ref g) && (rcB (PySem.W.findIn K (.ref C) (dunderR op.info.2)) && ((PySem.W.findIn K (.type T) (PySem.dunder op.info.2)).isSome && ((PySem.W.findIn K (.type T) (dunderR op.info.2)).isSome
    && decide (PySem.W.subIn K (.type T) (.ref C) = some false))))))
theorem opTB_ok {K : PySem.W.Frag} {C g : Addr} {op : Operator} {T : String} (h : opTB K C op T g = true) : OpT K C op T g := by
  obtain ⟨h1, h⟩ := He.ba h
  obtain ⟨h2, h⟩ := He.ba h
  obtain ⟨h3, h⟩ := He.ba h
  obtain ⟨h4, h⟩ := He.ba h
  obtain ⟨h5, h⟩ := He.ba h
  obtain ⟨h6, h7⟩ := He.ba h
  exact ⟨h1, of_decide_eq_true h2, h3, rcB_ok h4, Option.isSome_iff_exists.mp h5, Option.isSome_iff_exists.mp h6, of_decide_eq_true h7⟩
def zBinI (C : Addr) (sp : Sp) (W : WX) (ta tb : TE) : TE := fun σ H Q => ta σ H fun x H1 => tb σ H1 fun y H2 => match y with
  | .int _ => zIns x H2 fun p C' _ _ => ZSide (C' = C) (ZCall sp [.ref p, y] H2 Q fun cls d H' => W cls d σ H')
  | _ => False
theorem z_binI {op : Operator} (cz : Cz true X W k) (O : OpT X.K C op "int" g) (F : MFn X.prog X.w X.K X.mg X.base j g ps sp) (hj : j ≤ k) (ha : PE X a ta) (hb : PE X b tb) : PE X (.BinOp a op b pos) (zBinI C sp W ta tb) := by
  obtain ⟨rc, hr1, hr2⟩ := O.hr
  obtain ⟨fo, h1⟩ := O.h1
  obtain ⟨ro, h2⟩ := O.h2
  constructor
  intro pins s σ H Q I h
  refine wpAny_BinOp (binT ha hb I h fun v u s2 x y H2 I2 rx ry q => ?_)
  cases y with
  | int i =>
    obtain ⟨p, C', dx, fs, ex, ea, q2⟩ := zIns_of (show zIns x H2 _ from q)
    obtain ⟨eC, q3⟩ := q2
    subst ex eC
    cases (show v = Value.ref p from rx)
    obtain ⟨t, eu⟩ := (show ∃ t, u = Value.int i t from ry)
    subst eu
    obtain ⟨ox, od, J⟩ := inst_of I2 ea
    obtain ⟨m, hF⟩ := I2.fr
    refine PySem.W.ksp_binT (T := "int") hF I2.ok.mod.kin J rfl O.sf O.hs O.fn hr1 hr2 h1 h2 O.sub ?_
    refine thn (mcall (us := [.ref p, .int i t]) F (cz.room.mono hj) cz.tk I2 (.cons (show L2.RelV (.ref p) (.ref p) from rfl) (.cons (show L2.RelV (.int i) (.int i t) from ⟨t, rfl⟩) .nil)) q3.out) fun v3 s3 z => ?_
    obtain ⟨w3, H3, I3, r3, q3⟩ := z
    exact SlX.cmpback r3 ⟨w3, H3, I3, r3, q3⟩
  | _ => exact q.elim
end
/-! ### abs -/
theorem abs_own {prog : Program} {w : World} {A : Around} {E : Value → Shared → Prop} {s : Shared} {K : PySem.W.Frag} {x C f : Addr} {ox : Obj} {od : Option Obj} {Q : Value → Shared → Prop} (X : K.In s.heap) (I : PySem.W.InstAt s.heap x ox C od) (hs : PySem.W.findIn K (.ref C) "__abs__" = some (some (.ref f)))
    (hf : PySem.W.isFn K (.ref f) = true) (h : wpAny (model prog w) A.in1 (call (.ref f) [.ref x]) Q E s) : wpAny (model prog w) A (call (.builtin "abs") [.ref x]) Q E s := by
  refine Calls.call_function_entry PyProof.Rows.kind_abs PyProof.Rows.plain_abs PyProof.Rows.entry_abs (PyProof.Rows.args_abs _) ?_
  unfold Builtin.«abs»
  refine wpAny_bind (m := oneArg "abs" _) (wpAny_pure (wpAny_bind (m := callSpecial? (.ref x) (Str.ofString "__abs__")) (PySem.W.special_fn X I hs (beq_iff_eq.mp hf) (wpAny_mono h (fun r s' hr => ?_) fun _ _ y => y))))
  exact wpAny_pure ⟨_, rfl, hr⟩
def zAbsO (C : Addr) (sp : Sp) : List V → Hp → VK → Prop := fun xs H Q => match xs with
  | [.ref p] => zIns (.ref p) H fun p C' _ _ => ZSide (C' = C) (ZCall sp [.ref p] H Q fun _ _ _ => False)
  | _ => False
theorem zAbsO_ok {X : Cx} {W : WX} {k j : Nat} {g C : Addr} {ps : List Str} {sp : Sp} (cz : Cz true X W k) (hm : Meth X.K C "__abs__" g) (F : MFn X.prog X.w X.K X.mg X.base j g ps sp) (hj : j + 1 ≤ k) : CallR X (.builtin "abs") (zAbsO C sp) := by
  intro pins s σ H xs us Q I r q
  unfold zAbsO at q
  split at q
  · rename_i p
    obtain ⟨p', C', dx, fs, ex, ea, q2⟩ := zIns_of q
    obtain ⟨eC, q3⟩ := q2
    cases ex
    subst eC
    obtain ⟨u, rfl, ru⟩ := r.one
    cases (show u = Value.ref p from ru)
    obtain ⟨ox, od, J⟩ := inst_of I ea
    refine abs_own I.kIn J hm.at_ hm.fn (wpAny_call (codeAny_mono (mrun (W := fun _ _ _ _ => False) F (cz.room.mono hj).in1 I.env0.in1 (fun _ _ z => ?_) I (.cons (show L2.RelV (.ref p) (.ref p) from rfl) .nil) q3.out) fun r2 s2 z => z))
    obtain ⟨_, _, _, _, _, _, _, _, _, _, _, _, _, _, _, _, w⟩ := z
    exact w.elim
  · exact q.elim
/-! ### tables of the top -/
structure ZKd (K : PySem.W.Frag) (d a : Addr) (z : Str) (R : V → Prop) : Prop where
  out : a = d ∧ ∃ u0 v0, PySem.W.nsIn K d z = some (some u0) ∧ RelV v0 u0 ∧ R v0
def zKd (K : PySem.W.Frag) (d : Addr) : R2 := fun x y H Q => match x, y with
  | .ref a, .str z => ZKd K d a z fun v => Q v H
  | _, _ => False
theorem zKd_ok {X : Cx} {d : Addr} {es : Array DictEntry} {n : Nat} (D : KDict X.K X.w d es n) : IxR X (zKd X.K d) := by
  intro value slice pins s σ H x y v u Q I rx ry h hs
  cases x with
  | ref a =>
    cases y with
    | str z =>
      obtain ⟨ea, u0, v0, e, r, q⟩ := ZKd.out h
      subst ea
      have rx' := rx
      cases (show v = Value.ref a from rx)
      exact tail_any (kd_type D I) PySem.F.slot_dict_getitem.lookup (op_item_kd D pins s σ H (.ref a) (.str z) (.ref a) u Q I rx' ry ⟨z, u0, v0, rfl, rfl, e, r, q⟩) hs
    | _ => exact False.elim h
  | _ => exact False.elim h
theorem k_kd (K : PySem.W.Frag) {X : Cx} {d : Addr} {a b : Expr} {ta tb : TE} {pos : Pos} (hK : X.K = K) (D : ∃ es n, KDict K X.w d es n) (ha : PE X a ta) (hb : PE X b tb) (hs : PlainIx b := by intro _ _; rfl) : PE X (.Subscript a b pos) (tOp (zKd K d) ta tb) := by
  subst hK
  obtain ⟨es, n, D⟩ := D
  exact pe_ix (zKd_ok D) ha hb hs
/-! ### t.index(text) -/
structure ZTix (K : PySem.W.Frag) (H : Hp) (p : Addr) (z : Str) (R : Nat → Prop) : Prop where
  out : ∃ (ys : List Str) (j : Nat), SqT K H p (ys.map V.str) ∧ ys[j]? = some z ∧ (∀ m, m < j → ys[m]? ≠ some z) ∧ R j
def zTIndex (K : PySem.W.Frag) : V → List V → Hp → VK → Prop := fun x vs H Q => match x, vs with
  | .ref p, [.str z] => ZTix K H p z fun j => Q (.int (j : Nat)) H
  | _, _ => False
theorem k_tindex (K : PySem.W.Frag) {X : Cx} (hK : X.K = K) : MtR X "tuple.index" (zTIndex K) := by
  subst hK
  refine MtR.imp mt_tup_index fun x vs H Q q => ?_
  unfold zTIndex at q
  split at q
  · rename_i p z
    obtain ⟨ys, j, h1, h2, h3, h4⟩ := q.out
    exact ⟨p, ys, z, j, rfl, rfl, h1, h2, h3, h4⟩
  · exact q.elim
theorem zty_kt {K : PySem.W.Frag} {p : Addr} {vs : List V} {H : Hp} {R : Prop} (t : KTup K p vs) (r : R) : ZTy K "tuple" (.ref p) H R := ⟨t.ty H, r⟩
theorem zsq_K {K : PySem.W.Frag} {H : Hp} {p : Addr} {vs : List V} {R : Bool → List V → Prop} (t : KTup K p vs) (r : R false vs) : ZSq K H p R := ⟨false, vs, t.sq H, r⟩
section
variable {X : Cx} {a b c : Expr} {ta tb tc : TE} {pos : Pos} {op op' : CmpOp} {r r' : R2}
theorem z_chain (ho : OpR X (compareOp op) r) (ho' : OpR X (compareOp op') r') (ha : PE X a ta) (hb : PE X b tb) (hc : PE X c tc) (hm : lastMarks [op, op'] [b, c] = false := by with_unfolding_all rfl) : PE X (.Compare a [op, op'] [b, c] pos) (zChain r r' ta tb tc) := by
  rw [zChain_eq]
  exact pe_chain ho ho' ha hb hc hm
theorem zt_chain (ho : OpR X (compareOp op) r) (ho' : OpR X (compareOp op') r') (ha : PE X a ta) (hb : PE X b tb) (hc : PE X c tc) (hm : lastMarks [op, op'] [b, c] = false := by with_unfolding_all rfl) : PT X (.Compare a [op, op'] [b, c] pos) (zTest (zChain r r' ta tb tc)) := by
  rw [zTest_eq, zChain_eq]
  exact pt_chain ho ho' ha hb hc hm
end
end Z

open PySem PySem.Spec PyProof.Rows L2 Z
/-! steps of a walk: zm: is among the chunks; zr: is put in its place; z1: one stop that asks nothing -/
local macro_rules | `(tactic| walk_at "zm") => `(tactic| (repeat (first | assumption | exact List.Mem.head _ | refine List.Mem.tail _ ?_)))
local macro_rules | `(tactic| walk_at "zr") => `(tactic| (repeat (first | exact Rep.here | refine Rep.there ?_)))
local macro_rules | `(tactic| walk_at "zp") => `(tactic| (repeat (first | exact Pull.here | refine Pull.there ?_)))
local macro_rules | `(tactic| walk_at "zps") => `(tactic| (repeat (first | exact Pulls.nil | refine Pulls.cons (by walk_at "zp") ?_)))
local macro_rules | `(tactic| walk_at "zc") => `(tactic| (first | with_reducible assumption | with_reducible rfl | omega | decide | exact zcmul_r (by decide) | exact zcmul_l (by decide) | exact ⟨by decide, by decide +kernel⟩ | exact ⟨by decide, by decide, by decide⟩ | exact ⟨rfl, by simp only [List.length_cons, List.length_nil]; decide⟩ | ((try rw [sizeLine_eq]); simp only [Str.length_append, List.length_cons, List.length_nil, List.length_append, List.length_map, List.length_set, List.map_cons, List.map_nil]; omega) | (rw [sizeLine_eq]; omega)))
local macro_rules | `(tactic| walk_at "z1") => `(tactic| ((conv => whnf); first | exact True.intro | refine zif_t rfl ?_ | refine zif_f Bool.false_ne_true ?_ | refine zget (by assumption) (by walk_at "zm") ?_ | walk_at "zx" | refine znew (by assumption) fun _ _ _ => ?_ | refine zmake (by assumption) fun _ _ _ _ => ?_ | refine ZFl.mk ⟨by assumption, by assumption, _, rfl, ?_⟩ | refine ZCn.mk ⟨by assumption, rfl, _, _, by assumption, ?_⟩ | refine ZFs.mk ⟨by assumption, by assumption, Nat.le_of_ble_eq_true rfl, ?_⟩ | refine ZMt.mk ⟨rfl, rfl, ?_⟩ | refine zty_kt (by assumption) ?_ | refine zsq_K (by assumption) ?_ | refine zset (by assumption) (by walk_at "zr") fun _ _ => ?_ | refine zsq_l (by assumption) (by walk_at "zm") ?_ | refine zsq_t (by assumption) (by walk_at "zm") ?_ | refine ztyp_l (by assumption) (by walk_at "zm") ?_ | refine ztyp_t (by assumption) (by walk_at "zm") ?_ | refine zsq_L (by assumption) ?_ | refine zsq_T (by assumption) ?_ | refine ztyp_L (by assumption) ?_ | refine ztyp_T (by assumption) ?_ | refine zty_s ?_ | refine zty_l (by assumption) (by walk_at "zm") ?_ | refine ZSide.mk (by walk_at "zc") ?_ | refine ZAt.mk ⟨_, rfl, ?_⟩ | refine ZEx.mk ⟨_, rfl, ?_⟩))
local macro_rules | `(tactic| walk_at "z") => `(tactic| ((repeat walk_at "z1"); (try (conv => whnf))))
local macro_rules | `(tactic| walk_at "zx") => `(tactic| (exfalso; fail))
local macro_rules | `(tactic| walk_at "zo") => `(tactic| ((repeat (first | walk_at "z1" | ((conv => whnf); first | refine zif_t (decide_eq_true (by omega)) ?_ | refine zif_f (fun z => absurd (of_decide_eq_true z) (by omega)) ?_))); (try (conv => whnf))))

namespace Z
open PySem PySem.Spec PyProof.Rows L2
/-! the draws of a law -/
structure DrS where
  p : Addr
  ns : List Int
  i : Int
  v : Int
  c : Int
  m : Int
def DrawC (a : Addr) : Chunk := cEx (fun s : DrS => 0 ≤ s.i ∧ s.ns.length ≤ 63) fun s => [pt a (.lst [.ref s.p, .int s.i, .int s.v, .int s.c, .int s.m]), pt s.p (.lst (s.ns.map V.int))]
def spStart (K : PySem.W.Frag) : Sp := fun vs H Q _ => ∃ (a : Addr) (ns : List Int) (cs : List Chunk), vs = [.ref a] ∧ SqL K H a (ns.map V.int) ∧ ns.length ≤ 63 ∧ Own cs H ∧ ∀ q H', Own (DrawC q :: cs) H' → Q (.ref q) H'
def spDraw : Sp := fun vs H Q _ => ∃ (a : Addr) (many : Int) (cs : List Chunk), vs = [.ref a, .int many] ∧ 0 < many ∧ many < 2 ^ 64 ∧ Own (DrawC a :: cs) H ∧ ∀ r H', 0 ≤ r → r < many → Own (DrawC a :: cs) H' → Q (.int r) H'
/-- what follows is walked once -/
theorem zcut {t u : TS} {D : Ends} {σ : St} {H : Hp} (M : St → Hp → Prop) (h2 : ∀ σ' H', M σ' H' → u D σ' H') (h1 : ∀ U : St → Hp → Prop, (∀ σ' H', M σ' H' → U σ' H') → t { D with nx := U } σ H) : tSeq t u D σ H := h1 (u D) h2
abbrev drL (a : Addr) (s : DrS) (cs : List Chunk) : List Chunk := pt a (.lst [.ref s.p, .int s.i, .int s.v, .int s.c, .int s.m]) :: pt s.p (.lst (s.ns.map V.int)) :: cs
theorem drL_cls {a : Addr} {s : DrS} {cs : List Chunk} {H : Hp} (h : Own (drL a s cs) H) (h0 : 0 ≤ s.i) (h1 : s.ns.length ≤ 63) : Own (DrawC a :: cs) H := Own.cls s ⟨h0, h1⟩ h
theorem at_ns {ns : List Int} {i : Int} (h0 : 0 ≤ i) (h1 : i < ns.length) : ∃ v, atI (ns.map V.int) i = some (.int v) := by
  have h2 : i.toNat < ns.length := by omega
  refine ⟨ns[i.toNat], ?_⟩
  unfold atI ixN
  rw [List.length_map, if_pos h0, if_pos h1, Option.bind_some, List.getElem?_map, List.getElem?_eq_getElem h2]
  rfl
/-! the sameness of two values -/
def scV : V → Prop
  | .non | .bl _ | .int _ | .str _ => True
  | _ => False
def Same (K : PySem.W.Frag) (H : Hp) : Nat → V → V → Prop
  | 0, x, y => scV x ∧ x = y
  | n + 1, x, y => (scV x ∧ x = y) ∨ ∃ a b xs ys, x = .ref a ∧ y = .ref b ∧ ((SqL K H a xs ∧ SqL K H b ys) ∨ (SqT K H a xs ∧ SqT K H b ys)) ∧ xs.length ≤ 10000 ∧ Paired (Same K H n) xs ys
def spIsN : Sp := fun vs H Q _ => ∃ x, vs = [x] ∧ scV x ∧ Q (.bl (match x with | .int _ => true | _ => false)) H
def spSame (K : PySem.W.Frag) (n : Nat) : Sp := fun vs H Q _ => ∃ x y b, vs = [x, y] ∧ (scV x ∧ scV y ∧ b = decide (x = y) ∨ b = true ∧ Same K H n x y) ∧ Q (.bl b) H
theorem paired_at {α β : Type} {F : α → β → Prop} {xs : List α} {ys : List β} (h : Paired F xs ys) : ∀ i : Nat, i < ys.length → ∃ x y, xs[i]? = some x ∧ ys[i]? = some y ∧ F x y := by
  induction h with
  | nil => intro i hi; cases hi
  | @cons a b xs ys h t ih =>
    intro i hi
    cases i with
    | zero => exact ⟨a, b, rfl, rfl, h⟩
    | succ i => exact ih i (Nat.lt_of_succ_lt_succ hi)
def spLaw (K : PySem.W.Frag) : Sp := fun vs H Q _ => ∃ (a : Addr) (ns : List Int), vs = [.ref a] ∧ SqL K H a (ns.map V.int) ∧ ns.length ≤ 63 ∧ ∀ H', Q (.bl true) H'
end Z
namespace Z
open PySem PySem.Spec PyProof.Rows L2
/-! written numbers -/
def isNum (w : Str) : Prop := (1 ≤ w.length ∧ w.length ≤ 3) ∧ (w.length = 1 ∨ w.cps.toList[0]? ≠ some 48) ∧ NumText.AllDigits w.cps.toList
def numV (w : Str) : Int := ((NumText.digitsVal w.cps.toList : Nat) : Int)
theorem find_digit {c : Nat} (h0 : 48 ≤ c) (h1 : c ≤ 57) : Txt.find "0123456789" ⟨#[c]⟩ = (c : Int) - 48 := by
  have e : c = 48 ∨ c = 49 ∨ c = 50 ∨ c = 51 ∨ c = 52 ∨ c = 53 ∨ c = 54 ∨ c = 55 ∨ c = 56 ∨ c = 57 := by omega
  rcases e with rfl | rfl | rfl | rfl | rfl | rfl | rfl | rfl | rfl | rfl <;> decide +kernel
theorem find_none {c : Nat} (h : ¬ (48 ≤ c ∧ c ≤ 57)) : Txt.find "0123456789" ⟨#[c]⟩ = -1 := by
  rcases find_spec "0123456789" ⟨#[c]⟩ with e | ⟨i, _, hi, hs⟩
  · exact e
  · have hi9 : i < 10 := by
      have a : (⟨#[c]⟩ : Str).length = 1 := rfl
      have b : ("0123456789" : Str).length = 10 := by decide +kernel
      omega
    have q : Builtin.Str.strSub "0123456789" i (i + 1) = ⟨#[c]⟩ := hs
    have key : ∀ j < 10, (Builtin.Str.strSub "0123456789" j (j + 1)).cps.toList = [48 + j] := by decide +kernel
    have e2 := key i hi9
    rw [q] at e2
    have e3 : c = 48 + i := by
      have e4 : [c] = [48 + i] := e2
      injection e4
    omega
theorem mem_digits {c : Nat} : c ∈ ("0123456789" : Str).cps.toList ↔ 48 ≤ c ∧ c ≤ 57 := by
  have e : ("0123456789" : Str).cps.toList = [48, 49, 50, 51, 52, 53, 54, 55, 56, 57] := by decide +kernel
  rw [e]
  simp only [List.mem_cons, List.not_mem_nil, or_false]
  omega
theorem int_of_num {w : Str} (h : isNum w) : PySem.intText? w = some (numV w) := by
  refine intText_digits h.2.2 (fun e => ?_) (by have := h.1.2; omega)
  have l : w.cps.toList.length = w.length := Array.length_toList
  rw [e, List.length_nil] at l
  have := h.1.1
  omega
theorem str_nil {w : Str} : w = "" ↔ w.length = 0 := by
  constructor
  · rintro rfl
    decide +kernel
  · intro h
    obtain ⟨a⟩ := w
    have h' : a.size = 0 := h
    rw [Array.size_eq_zero_iff] at h'
    subst h'
    decide +kernel
theorem str_one {w : Str} {c : Nat} : w.cps.toList = [c] ↔ w = ⟨#[c]⟩ := by
  constructor
  · intro h
    obtain ⟨⟨a⟩⟩ := w
    have h' : a = [c] := h
    rw [h']
  · rintro rfl
    rfl
theorem sgn_inj {c d : Nat} : (⟨#[c]⟩ : Str) = ⟨#[d]⟩ ↔ c = d := by
  constructor
  · intro h
    have e : [c] = [d] := congrArg (fun s : Str => s.cps.toList) h
    injection e
  · rintro rfl
    rfl
theorem sgn_zero {c : Nat} : (⟨#[c]⟩ : Str) = "0" ↔ c = 48 := by
  have e : ("0" : Str) = ⟨#[48]⟩ := by decide +kernel
  rw [e]
  exact sgn_inj
end Z
namespace Z
open PySem PySem.Spec PyProof.Rows L2
def spSign : Sp := fun vs H Q _ => ∃ i : Int, vs = [.int i] ∧ 0 ≤ i ∧ i < 95 ∧ ∀ c : Nat, Q (.str ⟨#[c]⟩) H
def spVal : Sp := fun vs H Q _ => ∃ w : Str, vs = [.str w] ∧ w.length ≤ 10000 ∧ (isNum w → Q (.int (numV w)) H) ∧ (¬ isNum w → Q (.int (-1)) H)
def spRead (K : PySem.W.Frag) : Sp := fun vs H Q E => ∃ (w : Str) (ln : Int) (cs : List Chunk), vs = [.str w, .int ln] ∧ w.length ≤ 10000 ∧ Own cs H ∧ (isNum w → Q (.int (numV w)) H) ∧ (¬ isNum w → ∀ d H', Own (pt d (.xd [("line", .int ln), ("reason", .str "bad text")]) :: cs) H' → E (.ref (He.ga K "BadText")) (some d) H')
theorem at_lt {α : Type} {xs : List α} {i : Int} (h0 : 0 ≤ i) (h1 : i < xs.length) : ∃ v, atI xs i = some v ∧ xs[i.toNat]? = some v := by
  have h2 : i.toNat < xs.length := by omega
  refine ⟨xs[i.toNat], ?_, List.getElem?_eq_getElem h2⟩
  unfold atI ixN
  rw [if_pos h0, if_pos h1, Option.bind_some, List.getElem?_eq_getElem h2]
theorem len_cps {w : Str} : w.cps.toList.length = w.length := Array.length_toList
end Z
namespace Z
open PySem PySem.Spec PyProof.Rows L2
theorem dv_snoc (l : List Nat) (c : Nat) : NumText.digitsVal (l ++ [c]) = NumText.digitsVal l * 10 + (c - 48) := by
  unfold NumText.digitsVal
  rw [List.foldl_append]
  rfl
theorem take_snoc {α : Type} {l : List α} {i : Nat} {c : α} (h : l[i]? = some c) : l.take (i + 1) = l.take i ++ [c] := by
  rw [List.take_add_one, h]
  rfl
theorem allD_snoc {l : List Nat} {c : Nat} (h : NumText.AllDigits l) (h0 : 48 ≤ c ∧ c ≤ 57) : NumText.AllDigits (l ++ [c]) := fun d hd => by
  rcases List.mem_append.mp hd with z | z
  · exact h d z
  · rw [List.mem_singleton.mp z]
    exact h0
theorem isNum_of {w : Str} {c : Nat} (h0 : w.length ≠ 0) (h3 : ¬ (3 < (w.length : Int))) (hc : w.cps.toList[0]? = some c) (hz : ¬ (1 < (w.length : Int)) ∨ (⟨#[c]⟩ : Str) ≠ "0") (hd : NumText.AllDigits w.cps.toList) : isNum w := by
  refine ⟨⟨by omega, by omega⟩, ?_, hd⟩
  rcases hz with z | z
  · exact .inl (by omega)
  · refine .inr fun e => z ?_
    rw [hc] at e
    exact sgn_zero.mpr (Option.some.inj e)
theorem isNum_zero {w : Str} {c : Nat} (hc : w.cps.toList[0]? = some c) (h1 : 1 < (w.length : Int)) (hz : (⟨#[c]⟩ : Str) = "0") : ¬ isNum w := fun n => by
  rcases n.2.1 with z | z
  · omega
  · rw [hc, sgn_zero.mp hz] at z
    exact z rfl
theorem isNum_all {w : Str} {i c : Nat} (h : w.cps.toList[i]? = some c) (hd : ¬ (48 ≤ c ∧ c ≤ 57)) : ¬ isNum w := fun n => hd (n.2.2 c (List.mem_of_getElem? h))
end Z
namespace Z
open PySem PySem.Spec PyProof.Rows L2
def spReads (K : PySem.W.Frag) : Sp := fun vs H Q _ => ∃ (w : Str) (ln : Int) (cs : List Chunk), vs = [.str w, .int ln] ∧ w.length ≤ 10000 ∧ Own cs H ∧ ∀ H', Own cs H' → Q (.bl true) H'
def spBase (K : PySem.W.Frag) : Sp := fun vs H Q _ => ∃ (w : Str) (cs : List Chunk), vs = [.str w] ∧ w.length ≤ 10000 ∧ Own cs H ∧ ¬ isNum w ∧ ∀ H', Own cs H' → Q (.bl true) H'
end Z
namespace Z
open PySem PySem.Spec PyProof.Rows L2 TL
theorem len_num {n : Int} {k : Nat} (h0 : 0 ≤ n) (hk : 0 < k) (h : n < ((10 ^ k : Nat) : Int)) : (toString n : Str).length ≤ k := by
  obtain ⟨m, rfl⟩ := Int.eq_ofNat_of_zero_le h0
  have z := numL_len (n := m) hk (by omega)
  rw [len_tl]
  rw [show tl (toString ((m : Nat) : Int) : Str) = numL m from tl_num m]
  exact z
theorem num_ne {n : Int} (h0 : 0 ≤ n) : 1 ≤ (toString n : Str).length := by
  obtain ⟨m, rfl⟩ := Int.eq_ofNat_of_zero_le h0
  rw [len_tl]
  rw [show tl (toString ((m : Nat) : Int) : Str) = numL m from tl_num m]
  have := numL_ne m
  cases e : numL m with
  | nil => exact (this e).elim
  | cons a l => simp
theorem log_small {n : Int} {k : Nat} (h0 : 0 ≤ n) (h : n < 2 ^ 64) : n.natAbs.log2 < 1920 := by
  have z : n.natAbs < 2 ^ 64 := by omega
  exact Nat.lt_of_lt_of_le (PySem.Flt.log2_lt_of (by decide) z) (by decide)
end Z
namespace Z
open PySem
theorem zero_head (x : Str) : ((("0" : Str) ++ x).cps.toList)[0]? = some 48 := by
  have e : ("0" : Str).cps.toList = [48] := by decide +kernel
  show ((("0" : Str).cps ++ x.cps).toList)[0]? = some 48
  rw [Array.toList_append, e]
  rfl
end Z
namespace Z
open PySem PySem.Spec PyProof.Rows L2
/-! what is told of a chunk without opening it -/
theorem Split.part : ∀ {cs : List Chunk} {l : List (Addr × HO)} {c : Chunk}, Split cs l → c ∈ cs → ∃ l', c l' ∧ ∀ q ∈ l', q ∈ l
  | _, _, c, .cons (l := l1) h t, hm => by
    rcases List.mem_cons.mp hm with e | hm
    · subst e
      exact ⟨l1, h, fun q hq => List.mem_append_left _ hq⟩
    · obtain ⟨l', h', k⟩ := Split.part t hm
      exact ⟨l', h', fun q hq => List.mem_append_right _ (k q hq)⟩
theorem Own.ex {α : Type} {P : α → Prop} {f : α → List Chunk} {cs : List Chunk} {H : Hp} (h : Own cs H) (m : cEx P f ∈ cs) : ∃ x, P x ∧ ∀ a o, pt a o ∈ f x → H a = some o := by
  obtain ⟨l, s, _, g⟩ := h.out
  obtain ⟨l', ⟨x, px, sx⟩, k⟩ := s.part m
  exact ⟨x, px, fun a o hm => g _ (k _ (sx.mem hm))⟩
theorem Pull.of : ∀ {cs : List Chunk} {c : Chunk}, c ∈ cs → ∃ r, Pull cs c r
  | _ :: cs, _, .head _ => ⟨cs, .here⟩
  | d :: _, _, .tail _ h => by
    obtain ⟨r, p⟩ := Pull.of h
    exact ⟨d :: r, .there p⟩
theorem Pull.back : ∀ {cs r : List Chunk} {c : Chunk} {l : List (Addr × HO)}, Pull cs c r → Split (c :: r) l → ∃ l', Split cs l' ∧ l'.Perm l
  | _, _, _, l, .here, s => ⟨l, s, .refl _⟩
  | _, _, _, _, .there m, .cons (l := lc) h (.cons (l := ld) (r := lr) hd t) => by
    obtain ⟨l', s', p⟩ := Pull.back m (.cons h t)
    refine ⟨ld ++ l', .cons hd s', ?_⟩
    refine (p.append_left ld).trans ?_
    rw [← List.append_assoc, ← List.append_assoc]
    exact List.Perm.append_right lr List.perm_append_comm
theorem Own.push {cs r : List Chunk} {c : Chunk} {H : Hp} (h : Own (c :: r) H) (m : Pull cs c r) : Own cs H := by
  obtain ⟨l, s, d, g⟩ := h.out
  obtain ⟨l', s', p⟩ := m.back s
  exact ⟨l', s', ((p.map (·.1)).nodup_iff).mpr d, fun q hq => g q (p.mem_iff.mp hq)⟩
/-! kins -/
def okSide (u d : Int) (s : Str) : Prop := ((u = 0 ∨ d = 0) ∧ s = "line") ∨ ((u ≠ 0 ∧ d ≠ 0) ∧ (s = "elder" ∨ s = "younger"))
def okKin (u d : Int) (s : Str) : Prop := (0 ≤ u ∧ u ≤ 999) ∧ (0 ≤ d ∧ d ≤ 999) ∧ okSide u d s
def rankS (s : Str) : Nat := if s = "line" then 0 else if s = "elder" then 1 else 2
def othS (s : Str) : Str := if s = "elder" then "younger" else if s = "younger" then "elder" else s
def kinFs (u d : Int) (s : Str) : List (Str × V) := [("up", .int u), ("down", .int d), ("side", .str s), ("far", .int (u + d)), ("rank", .int (rankS s))]
def KinC (K : PySem.W.Frag) (a : Addr) (u d : Int) (s : Str) : Chunk := cEx (fun _ : Addr => okKin u d s) fun dx => [pt a (.ins (He.ga K "Kin") dx (kinFs u d s)), pt dx (.own a)]
theorem KinC.ok {K : PySem.W.Frag} {a : Addr} {u d : Int} {s : Str} {cs : List Chunk} {H : Hp} (h : Own cs H) (m : KinC K a u d s ∈ cs) : okKin u d s := by
  obtain ⟨_, ok, _⟩ := Own.ex h m
  exact ok
theorem zget_kin {K : PySem.W.Frag} {a : Addr} {u d : Int} {s : Str} {cs : List Chunk} {H : Hp} {R : HO → Prop} (h : Own cs H) (m : KinC K a u d s ∈ cs) (r : ∀ dx, R (.ins (He.ga K "Kin") dx [("up", .int u), ("down", .int d), ("side", .str s), ("far", .int (u + d)), ("rank", .int (rankS s))])) : ZGet H a R := by
  obtain ⟨dx, _, g⟩ := Own.ex h m
  exact ⟨_, g a _ (List.Mem.head _), r dx⟩
theorem kin_cls {K : PySem.W.Frag} {a dx : Addr} {u d : Int} {s : Str} {cs : List Chunk} {H : Hp} (ok : okKin u d s) (h : Own (pt a (.ins (He.ga K "Kin") dx (kinFs u d s)) :: pt dx (.own a) :: cs) H) : Own (KinC K a u d s :: cs) H := Own.cls dx ok h
theorem zisi_kin {K : PySem.W.Frag} {a : Addr} {u d : Int} {s : Str} {cs : List Chunk} {H : Hp} {R : Bool → Prop} (h : Own cs H) (m : KinC K a u d s ∈ cs) (c : Cls K (He.ga K "Kin")) (i : OwnI K (He.ga K "Kin")) (r : R true) : ZIsi K (.ref a) H (.ref (He.ga K "Kin")) R := by
  obtain ⟨dx, _, g⟩ := Own.ex h m
  exact ⟨.ref (He.ga K "Kin"), .ref (He.ga K "Kin"), true, .own _, .base (.ins (g a _ (List.Mem.head _)) c i.ca i.cn i.ct i.cm), i.ki, r⟩
theorem oth_ok {u d : Int} {s : Str} (h : okKin u d s) : okKin d u (othS s) := by
  obtain ⟨h1, h2, h3⟩ := h
  refine ⟨h2, h1, ?_⟩
  rcases h3 with ⟨h, rfl⟩ | ⟨h, rfl | rfl⟩
  · exact .inl ⟨h.symm, by decide⟩
  · exact .inr ⟨h.symm, .inr (by decide)⟩
  · exact .inr ⟨h.symm, .inl (by decide)⟩
/-! promises -/
def spFits : Sp := fun vs H Q _ => ∃ (u d : Int) (s : Str), vs = [.int u, .int d, .str s] ∧ ∀ b, (b = true ↔ okSide u d s) → Q (.bl b) H
def badKin (u d : Int) (s : Str) : HO := .xd [("side", .str s), ("down", .int d), ("up", .int u), ("reason", .str "bad kin")]
def spKinInit (K : PySem.W.Frag) : Sp := fun vs H Q E => ∃ (x dx : Addr) (u d : Int) (s : Str) (cs : List Chunk), vs = [.ref x, .int u, .int d, .str s] ∧ Own (pt x (.ins (He.ga K "Kin") dx []) :: pt dx (.own x) :: cs) H ∧
  (okKin u d s → ∀ H', Own (KinC K x u d s :: cs) H' → Q .non H') ∧ (¬ okKin u d s → ∀ e H', Own (pt e (badKin u d s) :: cs) H' → E (.ref (He.ga K "BadKin")) (some e) H')
def spMakeKin (K : PySem.W.Frag) : Sp := fun vs H Q E => ∃ (p : Addr) (u d : Int) (s : Str) (cs : List Chunk), vs = [.ref p] ∧ pt p (.tup [.int u, .int d, .str s]) ∈ cs ∧ Own cs H ∧
  (okKin u d s → ∀ a H', Own (KinC K a u d s :: cs) H' → Q (.ref a) H') ∧ (¬ okKin u d s → ∀ e H', Own (pt e (badKin u d s) :: cs) H' → E (.ref (He.ga K "BadKin")) (some e) H')
def spIsKin (K : PySem.W.Frag) : Sp := fun vs H Q _ => ∃ (a p : Addr) (u d : Int) (s : Str) (cs : List Chunk), vs = [.ref a, .ref p] ∧ KinC K a u d s ∈ cs ∧ pt p (.tup [.int u, .int d, .str s]) ∈ cs ∧ Own cs H ∧ ∀ H', Own cs H' → Q (.bl true) H'
def spOther : Sp := fun vs H Q _ => ∃ s : Str, vs = [.str s] ∧ Q (.str (othS s)) H
def spMinus : Sp := fun vs H Q _ => ∃ (p : Addr) (u d : Int) (s : Str) (cs : List Chunk), vs = [.ref p] ∧ pt p (.tup [.int u, .int d, .str s]) ∈ cs ∧ Own cs H ∧ ∀ q H', Own (pt q (.tup [.int d, .int u, .str (othS s)]) :: cs) H' → Q (.ref q) H'
def spNeg (K : PySem.W.Frag) : Sp := fun vs H Q _ => ∃ (a : Addr) (u d : Int) (s : Str) (cs : List Chunk), vs = [.ref a] ∧ KinC K a u d s ∈ cs ∧ Own cs H ∧ ∀ b H', Own (KinC K b d u (othS s) :: cs) H' → Q (.ref b) H'
def sidesOf (u d : Int) : List Str := if u = 0 ∨ d = 0 then ["line"] else ["elder", "younger"]
def spSides : Sp := fun vs H Q _ => ∃ (u d : Int) (cs : List Chunk), vs = [.int u, .int d] ∧ Own cs H ∧ ∀ l H', Own (pt l (.lst ((sidesOf u d).map V.str)) :: cs) H' → Q (.ref l) H'
theorem sides_ok {u d : Int} {s : Str} (h : s ∈ sidesOf u d) : okSide u d s := by
  unfold sidesOf at h
  by_cases e : u = 0 ∨ d = 0
  · rw [if_pos e] at h
    exact .inl ⟨e, List.mem_singleton.mp h⟩
  · rw [if_neg e] at h
    refine .inr ⟨⟨fun z => e (.inl z), fun z => e (.inr z)⟩, ?_⟩
    simpa using h
/-! words -/
def lineW (u d : Int) : Str := if u = 0 ∧ d = 0 then "self" else if u = 0 then (if d = 1 then "child" else "descendant") else if u = 1 then "parent" else "ancestor"
def wordW (u d : Int) (s : Str) : Str := if s = "line" then lineW u d else if u = 1 ∧ d = 1 then s ++ " sibling" else if d = 1 then s ++ " uncle" else if u = 1 then s ++ " nephew" else s ++ " cousin"
def spLineW : Sp := fun vs H Q _ => ∃ u d : Int, vs = [.int u, .int d] ∧ Q (.str (lineW u d)) H
def spWord (K : PySem.W.Frag) : Sp := fun vs H Q _ => ∃ (a : Addr) (u d : Int) (s : Str) (cs : List Chunk), vs = [.ref a] ∧ KinC K a u d s ∈ cs ∧ Own cs H ∧ Q (.str (wordW u d s)) H
def spLawLine : Sp := fun vs H Q _ => ∃ (u d : Int) (cs : List Chunk), vs = [.int u, .int d] ∧ 0 ≤ u ∧ 0 ≤ d ∧ Own cs H ∧ (u = 0 ∨ d = 0) ∧ ∀ H', Own cs H' → Q (.str (lineW u d)) H'
def spLawWord : Sp := fun vs H Q _ => ∃ (p : Addr) (u d : Int) (s : Str) (cs : List Chunk), vs = [.ref p] ∧ okKin u d s ∧ pt p (.tup [.int u, .int d, .str s]) ∈ cs ∧ Own cs H ∧ ∀ H', Own cs H' → Q (.str (wordW u d s)) H'
def spCount : Sp := fun vs H Q _ => ∃ (a : Addr) (cs : List Chunk), vs = [.ref a] ∧ Own (DrawC a :: cs) H ∧ ∀ r H', 0 ≤ r → r ≤ 999 → Own (DrawC a :: cs) H' → Q (.int r) H'
end Z
namespace Z
open PySem PySem.Spec PyProof.Rows L2
def spNamed (K : PySem.W.Frag) : Sp := fun vs H Q _ => ∃ (a p : Addr) (u d : Int) (s : Str) (cs : List Chunk), vs = [.ref a, .ref p] ∧ KinC K a u d s ∈ cs ∧ pt p (.tup [.int u, .int d, .str s]) ∈ cs ∧ Own cs H ∧ ∀ H', Own cs H' → Q (.bl true) H'
end Z
namespace Z
open PySem PySem.Spec PyProof.Rows L2
/-- rows of a law over kins: a tuple of parts and a kin of these -/
structure KRow where
  t : Addr
  k : Addr
  u : Int
  d : Int
  s : Str
def KRow.here (K : PySem.W.Frag) (cs : List Chunk) (r : KRow) : Prop := KinC K r.k r.u r.d r.s ∈ cs ∧ pt r.t (.tup [.int r.u, .int r.d, .str r.s]) ∈ cs
theorem KRow.here.cons {K : PySem.W.Frag} {cs : List Chunk} {r : KRow} (h : r.here K cs) (c : Chunk) : r.here K (c :: cs) := ⟨.tail _ h.1, .tail _ h.2⟩
structure KCnt where
  t : Addr
  u : Int
  d : Int
def KCnt.here (cs : List Chunk) (r : KCnt) : Prop := pt r.t (.tup [.int r.u, .int r.d]) ∈ cs ∧ (0 ≤ r.u ∧ r.u ≤ 999) ∧ (0 ≤ r.d ∧ r.d ≤ 999)
theorem KCnt.here.cons {cs : List Chunk} {r : KCnt} (h : r.here cs) (c : Chunk) : r.here (c :: cs) := ⟨.tail _ h.1, h.2⟩
end Z
namespace Z

end Z
local macro_rules | `(tactic| walk_at "zx") => `(tactic| first | refine zget_kin (by assumption) (by walk_at "zm") fun _ => ?_ | refine zisi_kin (by assumption) (by walk_at "zm") (by assumption) (by assumption) ?_)
namespace K04
open PySem PySem.Spec PyProof.Rows L2 Z
def top (i : Nat) : Stmt := PySem.Challenge.pw_forkwaits_k04_words_of_kins.main.body.getD i (.Pass ⟨0, 0, 0, 0⟩)
def inn (i j : Nat) : Stmt := match top i with
  | .ClassDef (body := b) .. => b.getD j (.Pass ⟨0, 0, 0, 0⟩)
  | _ => .Pass ⟨0, 0, 0, 0⟩
abbrev st_read_number : Stmt := top 9
def d_read_number : He.DefD := ⟨("read_number", none), "read_number", "read_number", defArgs st_read_number, defBody st_read_number, defScope st_read_number, [], []⟩
abbrev st_fits_side : Stmt := top 14
def d_fits_side : He.DefD := ⟨("fits_side", none), "fits_side", "fits_side", defArgs st_fits_side, defBody st_fits_side, defScope st_fits_side, [], []⟩
abbrev st_line_word : Stmt := top 16
def d_line_word : He.DefD := ⟨("line_word", none), "line_word", "line_word", defArgs st_line_word, defBody st_line_word, defScope st_line_word, [], []⟩
abbrev st__law_start : Stmt := top 19
def d__law_start : He.DefD := ⟨("_law_start", none), "_law_start", "_law_start", defArgs st__law_start, defBody st__law_start, defScope st__law_start, [], []⟩
abbrev st__law_draw : Stmt := top 20
def d__law_draw : He.DefD := ⟨("_law_draw", none), "_law_draw", "_law_draw", defArgs st__law_draw, defBody st__law_draw, defScope st__law_draw, [], []⟩
abbrev st__law_is_number : Stmt := top 21
def d__law_is_number : He.DefD := ⟨("_law_is_number", none), "_law_is_number", "_law_is_number", defArgs st__law_is_number, defBody st__law_is_number, defScope st__law_is_number, [], []⟩
abbrev st__law_same : Stmt := top 22
def d__law_same : He.DefD := ⟨("_law_same", none), "_law_same", "_law_same", defArgs st__law_same, defBody st__law_same, defScope st__law_same, [], []⟩
abbrev st__law_sides : Stmt := top 23
def d__law_sides : He.DefD := ⟨("_law_sides", none), "_law_sides", "_law_sides", defArgs st__law_sides, defBody st__law_sides, defScope st__law_sides, [], []⟩
abbrev st__law_other_side : Stmt := top 24
def d__law_other_side : He.DefD := ⟨("_law_other_side", none), "_law_other_side", "_law_other_side", defArgs st__law_other_side, defBody st__law_other_side, defScope st__law_other_side, [], []⟩
abbrev st__law_minus : Stmt := top 25
def d__law_minus : He.DefD := ⟨("_law_minus", none), "_law_minus", "_law_minus", defArgs st__law_minus, defBody st__law_minus, defScope st__law_minus, [], []⟩
abbrev st__law_kin : Stmt := top 26
def d__law_kin : He.DefD := ⟨("_law_kin", none), "_law_kin", "_law_kin", defArgs st__law_kin, defBody st__law_kin, defScope st__law_kin, [], []⟩
abbrev st__law_is_kin : Stmt := top 27
def d__law_is_kin : He.DefD := ⟨("_law_is_kin", none), "_law_is_kin", "_law_is_kin", defArgs st__law_is_kin, defBody st__law_is_kin, defScope st__law_is_kin, [], []⟩
abbrev st__law_count : Stmt := top 28
def d__law_count : He.DefD := ⟨("_law_count", none), "_law_count", "_law_count", defArgs st__law_count, defBody st__law_count, defScope st__law_count, [], []⟩
abbrev st__law_line_word : Stmt := top 29
def d__law_line_word : He.DefD := ⟨("_law_line_word", none), "_law_line_word", "_law_line_word", defArgs st__law_line_word, defBody st__law_line_word, defScope st__law_line_word, [], []⟩
abbrev st__law_word : Stmt := top 30
def d__law_word : He.DefD := ⟨("_law_word", none), "_law_word", "_law_word", defArgs st__law_word, defBody st__law_word, defScope st__law_word, [], []⟩
abbrev st__law_named : Stmt := top 31
def d__law_named : He.DefD := ⟨("_law_named", none), "_law_named", "_law_named", defArgs st__law_named, defBody st__law_named, defScope st__law_named, [], []⟩
abbrev st_law : Stmt := top 32
def d_law : He.DefD := ⟨("law", none), "law", "law", defArgs st_law, defBody st_law, defScope st_law, [], []⟩
abbrev st_Kin___init__ : Stmt := inn 15 1
def d_Kin___init__ : He.DefD := ⟨("Kin", some "__init__"), "__init__", "Kin.__init__", defArgs st_Kin___init__, defBody st_Kin___init__, defScope st_Kin___init__, [], []⟩
abbrev st_Kin___neg__ : Stmt := inn 15 11
def d_Kin___neg__ : He.DefD := ⟨("Kin", some "__neg__"), "__neg__", "Kin.__neg__", defArgs st_Kin___neg__, defBody st_Kin___neg__, defScope st_Kin___neg__, [], []⟩
abbrev st_Kin_word : Stmt := inn 15 6
def d_Kin_word : GetD := ⟨fun K => prA K "Kin" "word" 0, "word", "Kin.word", defArgs st_Kin_word, defBody st_Kin_word, defScope st_Kin_word⟩
abbrev si_ForkError : Stmt := inn 2 0
def u_ForkError : SupD := ⟨"ForkError", "__init__", "__init__", "ForkError.__init__", defArgs si_ForkError, defBody si_ForkError, defScope si_ForkError⟩
abbrev si_BadKin : Stmt := inn 3 0
def u_BadKin : SupD := ⟨"BadKin", "__init__", "__init__", "BadKin.__init__", defArgs si_BadKin, defBody si_BadKin, defScope si_BadKin⟩
abbrev si_BadReach : Stmt := inn 4 0
def u_BadReach : SupD := ⟨"BadReach", "__init__", "__init__", "BadReach.__init__", defArgs si_BadReach, defBody si_BadReach, defScope si_BadReach⟩
abbrev si_BadText : Stmt := inn 5 0
def u_BadText : SupD := ⟨"BadText", "__init__", "__init__", "BadText.__init__", defArgs si_BadText, defBody si_BadText, defScope si_BadText⟩
structure Hd (P : Program) (w : World) (K : PySem.W.Frag) (mg : Str → Option Value) : Prop where
  top : (P.main.scope.names.lookup ("super" : Str)).isSome = false
  fr_bool : mg "bool" = none
  fr_int : mg "int" = none
  fr_isinstance : mg "isinstance" = none
  fr_len : mg "len" = none
  fr_list : mg "list" = none
  fr_min : mg "min" = none
  fr_range : mg "range" = none
  fr_str : mg "str" = none
  fr_super : mg "super" = none
  fr_tuple : mg "tuple" = none
  c_DIGITS : ∃ t, mg "DIGITS" = some (.str "0123456789" t)
  c_MOST_DIGITS : ∃ t, mg "MOST_DIGITS" = some (.int 3 t)
  g_SIDES : mg "SIDES" = some (.ref (He.ga K "SIDES"))
  t_SIDES : KTup K (He.ga K "SIDES") [.str "line", .str "elder", .str "younger"]
  g_OPPOSITE : mg "OPPOSITE" = some (.ref (He.ga K "OPPOSITE"))
  kd_OPPOSITE : ∃ es n, KDict K w (He.ga K "OPPOSITE") es n
  kv_OPPOSITE : ∀ q ∈ ([("line", .str "line"), ("elder", .str "younger"), ("younger", .str "elder")] : List (Str × He.Dv)), ∃ u, PySem.W.nsIn K (He.ga K "OPPOSITE") q.1 = some (some u) ∧ RelV (q.2.v K) u
  g_ForkError : mg "ForkError" = some (.ref (He.ga K "ForkError"))
  g_BadKin : mg "BadKin" = some (.ref (He.ga K "BadKin"))
  g_BadReach : mg "BadReach" = some (.ref (He.ga K "BadReach"))
  g_BadText : mg "BadText" = some (.ref (He.ga K "BadText"))
  g_Kin : mg "Kin" = some (.ref (He.ga K "Kin"))
  cl_Kin : Cls K (He.ga K "Kin")
  ow_Kin : OwnI K (He.ga K "Kin")
  mk_Kin : Mk K (He.ga K "Kin") (He.ma K (He.ga K "Kin") "__init__")
  na_Kin_up : NoAttr K (He.ga K "Kin") "up"
  na_Kin_down : NoAttr K (He.ga K "Kin") "down"
  na_Kin_side : NoAttr K (He.ga K "Kin") "side"
  na_Kin_far : NoAttr K (He.ga K "Kin") "far"
  na_Kin_rank : NoAttr K (He.ga K "Kin") "rank"
  me_Kin___init__ : Meth K (He.ga K "Kin") "__init__" (He.ma K (He.ga K "Kin") "__init__")
  me_Kin___neg__ : Meth K (He.ga K "Kin") "__neg__" (He.ma K (He.ga K "Kin") "__neg__")
  pr_Kin_word : PropOf K (He.ga K "Kin") "word" (He.ma K (He.ga K "Kin") "word") (prA K "Kin" "word" 0)
  cn_Kin_MOST : ∃ u, Con K (He.ga K "Kin") "MOST" (.int 999) u
  gd_read_number : mg "read_number" = some (.ref (He.fAd K ("read_number", none)))
  d_read_number : ∃ fd, FunD K "read_number" "read_number" (defArgs st_read_number) (defBody st_read_number) (defScope st_read_number) [] [] (He.fAd K ("read_number", none)) fd
  gd_fits_side : mg "fits_side" = some (.ref (He.fAd K ("fits_side", none)))
  d_fits_side : ∃ fd, FunD K "fits_side" "fits_side" (defArgs st_fits_side) (defBody st_fits_side) (defScope st_fits_side) [] [] (He.fAd K ("fits_side", none)) fd
  gd_line_word : mg "line_word" = some (.ref (He.fAd K ("line_word", none)))
  d_line_word : ∃ fd, FunD K "line_word" "line_word" (defArgs st_line_word) (defBody st_line_word) (defScope st_line_word) [] [] (He.fAd K ("line_word", none)) fd
  gd__law_start : mg "_law_start" = some (.ref (He.fAd K ("_law_start", none)))
  d__law_start : ∃ fd, FunD K "_law_start" "_law_start" (defArgs st__law_start) (defBody st__law_start) (defScope st__law_start) [] [] (He.fAd K ("_law_start", none)) fd
  gd__law_draw : mg "_law_draw" = some (.ref (He.fAd K ("_law_draw", none)))
  d__law_draw : ∃ fd, FunD K "_law_draw" "_law_draw" (defArgs st__law_draw) (defBody st__law_draw) (defScope st__law_draw) [] [] (He.fAd K ("_law_draw", none)) fd
  gd__law_is_number : mg "_law_is_number" = some (.ref (He.fAd K ("_law_is_number", none)))
  d__law_is_number : ∃ fd, FunD K "_law_is_number" "_law_is_number" (defArgs st__law_is_number) (defBody st__law_is_number) (defScope st__law_is_number) [] [] (He.fAd K ("_law_is_number", none)) fd
  gd__law_same : mg "_law_same" = some (.ref (He.fAd K ("_law_same", none)))
  d__law_same : ∃ fd, FunD K "_law_same" "_law_same" (defArgs st__law_same) (defBody st__law_same) (defScope st__law_same) [] [] (He.fAd K ("_law_same", none)) fd
  gd__law_sides : mg "_law_sides" = some (.ref (He.fAd K ("_law_sides", none)))
  d__law_sides : ∃ fd, FunD K "_law_sides" "_law_sides" (defArgs st__law_sides) (defBody st__law_sides) (defScope st__law_sides) [] [] (He.fAd K ("_law_sides", none)) fd
  gd__law_other_side : mg "_law_other_side" = some (.ref (He.fAd K ("_law_other_side", none)))
  d__law_other_side : ∃ fd, FunD K "_law_other_side" "_law_other_side" (defArgs st__law_other_side) (defBody st__law_other_side) (defScope st__law_other_side) [] [] (He.fAd K ("_law_other_side", none)) fd
  gd__law_minus : mg "_law_minus" = some (.ref (He.fAd K ("_law_minus", none)))
  d__law_minus : ∃ fd, FunD K "_law_minus" "_law_minus" (defArgs st__law_minus) (defBody st__law_minus) (defScope st__law_minus) [] [] (He.fAd K ("_law_minus", none)) fd
  gd__law_kin : mg "_law_kin" = some (.ref (He.fAd K ("_law_kin", none)))
  d__law_kin : ∃ fd, FunD K "_law_kin" "_law_kin" (defArgs st__law_kin) (defBody st__law_kin) (defScope st__law_kin) [] [] (He.fAd K ("_law_kin", none)) fd
  gd__law_is_kin : mg "_law_is_kin" = some (.ref (He.fAd K ("_law_is_kin", none)))
  d__law_is_kin : ∃ fd, FunD K "_law_is_kin" "_law_is_kin" (defArgs st__law_is_kin) (defBody st__law_is_kin) (defScope st__law_is_kin) [] [] (He.fAd K ("_law_is_kin", none)) fd
  gd__law_count : mg "_law_count" = some (.ref (He.fAd K ("_law_count", none)))
  d__law_count : ∃ fd, FunD K "_law_count" "_law_count" (defArgs st__law_count) (defBody st__law_count) (defScope st__law_count) [] [] (He.fAd K ("_law_count", none)) fd
  gd__law_line_word : mg "_law_line_word" = some (.ref (He.fAd K ("_law_line_word", none)))
  d__law_line_word : ∃ fd, FunD K "_law_line_word" "_law_line_word" (defArgs st__law_line_word) (defBody st__law_line_word) (defScope st__law_line_word) [] [] (He.fAd K ("_law_line_word", none)) fd
  gd__law_word : mg "_law_word" = some (.ref (He.fAd K ("_law_word", none)))
  d__law_word : ∃ fd, FunD K "_law_word" "_law_word" (defArgs st__law_word) (defBody st__law_word) (defScope st__law_word) [] [] (He.fAd K ("_law_word", none)) fd
  gd__law_named : mg "_law_named" = some (.ref (He.fAd K ("_law_named", none)))
  d__law_named : ∃ fd, FunD K "_law_named" "_law_named" (defArgs st__law_named) (defBody st__law_named) (defScope st__law_named) [] [] (He.fAd K ("_law_named", none)) fd
  gd_law : mg "law" = some (.ref (He.fAd K ("law", none)))
  d_law : ∃ fd, FunD K "law" "law" (defArgs st_law) (defBody st_law) (defScope st_law) [] [] (He.fAd K ("law", none)) fd
  d_Kin___init__ : ∃ fd, FunD K "__init__" "Kin.__init__" (defArgs st_Kin___init__) (defBody st_Kin___init__) (defScope st_Kin___init__) [] [] (He.ma K (He.ga K "Kin") "__init__") fd
  d_Kin___neg__ : ∃ fd, FunD K "__neg__" "Kin.__neg__" (defArgs st_Kin___neg__) (defBody st_Kin___neg__) (defScope st_Kin___neg__) [] [] (He.ma K (He.ga K "Kin") "__neg__") fd
  d_Kin_word : ∃ fd, FunD K "word" "Kin.word" (defArgs st_Kin_word) (defBody st_Kin_word) (defScope st_Kin_word) [] [] (prA K "Kin" "word" 0) fd
  s_ForkError : ∃ cda cc fd, SupFn P K (He.ga K "ForkError") (He.ma K (He.ga K "ForkError") "__init__") "__init__" "ForkError.__init__" (defArgs si_ForkError) (defBody si_ForkError) (defScope si_ForkError) cda cc fd
  s_BadKin : ∃ cda cc fd, SupFn P K (He.ga K "BadKin") (He.ma K (He.ga K "BadKin") "__init__") "__init__" "BadKin.__init__" (defArgs si_BadKin) (defBody si_BadKin) (defScope si_BadKin) cda cc fd
  s_BadReach : ∃ cda cc fd, SupFn P K (He.ga K "BadReach") (He.ma K (He.ga K "BadReach") "__init__") "__init__" "BadReach.__init__" (defArgs si_BadReach) (defBody si_BadReach) (defScope si_BadReach) cda cc fd
  s_BadText : ∃ cda cc fd, SupFn P K (He.ga K "BadText") (He.ma K (He.ga K "BadText") "__init__") "__init__" "BadText.__init__" (defArgs si_BadText) (defBody si_BadText) (defScope si_BadText) cda cc fd
  k_BadKin : Kid K "BadKin" "ForkError" ["reason", "up", "down", "side"]
  k_BadReach : Kid K "BadReach" "ForkError" ["reason", "number"]
  k_BadText : Kid K "BadText" "ForkError" ["reason", "line"]
section
variable {P : Program} {w : World} {K : PySem.W.Frag} {mg : Str → Option Value} {base : Heap}
theorem tx_ForkError : InitTx ["reason"] [.par 0] [("reason", .par 0)] (defArgs si_ForkError) (defBody si_ForkError) (defScope si_ForkError) := by
  refine ⟨⟨_, rfl, rfl⟩, rfl, rfl, rfl, rfl, rfl, rfl, by decide +kernel, by decide +kernel, by decide +kernel, ?_⟩
  exact ⟨_, _, _, _, _, _, _, _, rfl, .cons (SrcE.par rfl (by decide)) (.nil), .cons (StE.mk (SrcE.par rfl (by decide))) (.nil), fun env => ⟨_, rfl⟩⟩
theorem tx_BadKin : InitTx ["up", "down", "side"] [.cst "bad kin"] [("up", .par 0), ("down", .par 1), ("side", .par 2)] (defArgs si_BadKin) (defBody si_BadKin) (defScope si_BadKin) := by
  refine ⟨⟨_, rfl, rfl⟩, rfl, rfl, rfl, rfl, rfl, rfl, by decide +kernel, by decide +kernel, by decide +kernel, ?_⟩
  exact ⟨_, _, _, _, _, _, _, _, rfl, .cons (SrcE.cst) (.nil), .cons (StE.mk (SrcE.par rfl (by decide))) (.cons (StE.mk (SrcE.par rfl (by decide))) (.cons (StE.mk (SrcE.par rfl (by decide))) (.nil))), fun env => ⟨_, rfl⟩⟩
theorem tx_BadReach : InitTx ["number"] [.cst "bad reach"] [("number", .par 0)] (defArgs si_BadReach) (defBody si_BadReach) (defScope si_BadReach) := by
  refine ⟨⟨_, rfl, rfl⟩, rfl, rfl, rfl, rfl, rfl, rfl, by decide +kernel, by decide +kernel, by decide +kernel, ?_⟩
  exact ⟨_, _, _, _, _, _, _, _, rfl, .cons (SrcE.cst) (.nil), .cons (StE.mk (SrcE.par rfl (by decide))) (.nil), fun env => ⟨_, rfl⟩⟩
theorem tx_BadText : InitTx ["line"] [.cst "bad text"] [("line", .par 0)] (defArgs si_BadText) (defBody si_BadText) (defScope si_BadText) := by
  refine ⟨⟨_, rfl, rfl⟩, rfl, rfl, rfl, rfl, rfl, rfl, by decide +kernel, by decide +kernel, by decide +kernel, ?_⟩
  exact ⟨_, _, _, _, _, _, _, _, rfl, .cons (SrcE.cst) (.nil), .cons (StE.mk (SrcE.par rfl (by decide))) (.nil), fun env => ⟨_, rfl⟩⟩
theorem er_BadKin (h : Hd P w K mg) : ErrOk P w K mg "BadKin" (He.ga K "BadKin") 2 3 (fun vs => [("side", Src.val vs (.par 2)), ("down", Src.val vs (.par 1)), ("up", Src.val vs (.par 0)), ("reason", Src.val vs (.cst "bad kin"))]) :=
  kid_err h.k_BadKin h.g_BadKin h.fr_super h.top h.s_BadKin h.s_ForkError tx_BadKin tx_ForkError (fun doc pm an cda ct cc u us hl => match us, hl with | [_, _, _], _ => rfl) (fun doc pm an cda ct cc u us hl => match us, hl with | [_], _ => rfl) (by decide) (by decide) rfl (by decide) (by decide)
theorem er_BadReach (h : Hd P w K mg) : ErrOk P w K mg "BadReach" (He.ga K "BadReach") 2 1 (fun vs => [("number", Src.val vs (.par 0)), ("reason", Src.val vs (.cst "bad reach"))]) :=
  kid_err h.k_BadReach h.g_BadReach h.fr_super h.top h.s_BadReach h.s_ForkError tx_BadReach tx_ForkError (fun doc pm an cda ct cc u us hl => match us, hl with | [_], _ => rfl) (fun doc pm an cda ct cc u us hl => match us, hl with | [_], _ => rfl) (by decide) (by decide) rfl (by decide) (by decide)
theorem er_BadText (h : Hd P w K mg) : ErrOk P w K mg "BadText" (He.ga K "BadText") 2 1 (fun vs => [("line", Src.val vs (.par 0)), ("reason", Src.val vs (.cst "bad text"))]) :=
  kid_err h.k_BadText h.g_BadText h.fr_super h.top h.s_BadText h.s_ForkError tx_BadText tx_ForkError (fun doc pm an cda ct cc u us hl => match us, hl with | [_], _ => rfl) (fun doc pm an cda ct cc u us hl => match us, hl with | [_], _ => rfl) (by decide) (by decide) rfl (by decide) (by decide)
theorem sc_read_number : FnScope ["word", "line", "char"] ["word", "line"] (defScope st_read_number) := ⟨rfl, rfl, rfl, by decide +kernel, rfl, by decide +kernel, by decide +kernel⟩
theorem g_read_number (h : Hd P w K mg) : GFn true P w K mg base 3 "read_number" ["word", "line"] (spRead K) := by
  refine gfn_mk (k := 2) h.d_read_number h.gd_read_number sc_read_number (fun kV doc pm an cdv ct us hl => match us, hl with | [_, _], _ => rfl) (fun vs H Q E q => by obtain ⟨w, ln, cs, rfl, _⟩ := q; rfl) (fun cdv A outer s H vs Q E pn cz hsp => ⟨_, (pss_cons (z_if (PW.pt (zt_or (zt_cmp zEq_ok (z_v 0) pe_str) (zt_or1 (zt_cmp zGt_ok (z_callB (k_len K rfl) h.fr_len (by decide +kernel) (pa_cons (z_v 0) pa_nil)) (pe_glob (v := .int 3) rfl h.c_MOST_DIGITS.choose_spec ⟨_, rfl⟩))))) (pss_one (z_raise cz (er_BadText (K := K) h) (by decide) (pa_cons (z_v 1) pa_nil))) pss_nil) (pss_cons (z_if (PW.pt (zt_and (zt_cmp zEq_ok (k_ix K rfl (z_v 0) pe_int) pe_str) (zt_and1 (zt_cmp zGt_ok (z_callB (k_len K rfl) h.fr_len (by decide +kernel) (pa_cons (z_v 0) pa_nil)) pe_int)))) (pss_one (z_raise cz (er_BadText (K := K) h) (by decide) (pa_cons (z_v 1) pa_nil))) pss_nil) (pss_cons (z_for cz (k_it K rfl (z_v 0)) (zg_name 2 sc_read_number.nd) (pss_one (z_if (zt_cmp (k_notin K rfl) (z_v 2) (pe_glob (v := .str "0123456789") rfl h.c_DIGITS.choose_spec ⟨_, rfl⟩)) (pss_one (z_raise cz (er_BadText (K := K) h) (by decide) (pa_cons (z_v 1) pa_nil))) pss_nil))) (pss_one (ps_ret (z_callT zIntF_ok h.fr_int (by decide +kernel) (pa_cons (z_v 0) pa_nil))))))), ?_⟩)
  have cl_Kin := h.cl_Kin
  have ow_Kin := h.ow_Kin
  have na_Kin_up := h.na_Kin_up
  have na_Kin_down := h.na_Kin_down
  have na_Kin_side := h.na_Kin_side
  have na_Kin_far := h.na_Kin_far
  have na_Kin_rank := h.na_Kin_rank
  have t_SIDES := h.t_SIDES
  obtain ⟨u_Kin_MOST, cn_Kin_MOST⟩ := h.cn_Kin_MOST
  obtain ⟨wd, ln, cs, rfl, hl, hO, hY, hN⟩ := hsp
  have bad : ∀ d H', Own (pt d (.xd [("line", .int ln), ("reason", .str "bad text")]) :: cs) H' → ¬ isNum wd → E (.ref (He.ga K "BadText")) (some d) H' := fun d H' o n => hN n d H' o
  refine zcut (fun σ H' => H' = H ∧ σ = [some (.str wd), some (.int ln), none] ∧ wd.length ≠ 0 ∧ ¬ (3 < (wd.length : Int))) ?_ fun U hU => ?_
  · intro σ H' hh
    obtain ⟨eH, eS, hw, hw3⟩ := hh
    rw [eH, eS]
    obtain ⟨c0, e0, e1⟩ := at_lt (xs := wd.cps.toList) (Int.le_refl 0) (by rw [len_cps]; omega)
    refine zcut (fun σ H2 => H2 = H ∧ σ = [some (.str wd), some (.int ln), none] ∧ (¬ (1 < (wd.length : Int)) ∨ (⟨#[c0]⟩ : Str) ≠ "0")) ?_ fun U hU => ?_
    · intro σ H2 hh
      obtain ⟨eH, eS, hz⟩ := hh
      rw [eH, eS]
      walk_at "z"
      refine zloop_s (fun i σ H2 => H2 = H ∧ (∃ o1, σ = [some (.str wd), some (.int ln), o1]) ∧ NumText.AllDigits (wd.cps.toList.take i)) ⟨rfl, ⟨_, rfl⟩, fun c hc => nomatch hc⟩ ?_ ?_
      · intro i c σ H2 hc hh
        obtain ⟨eH, ⟨o1, eS⟩, had⟩ := hh
        rw [eH, eS]
        walk_at "z"
        by_cases hd : 48 ≤ c ∧ c ≤ 57
        · have ec : ¬ ((!decide (c ∈ ("0123456789" : Str).cps.toList)) = true) := by
            rw [decide_eq_true (mem_digits.mpr hd)]
            decide
          refine zif_f ec ?_
          walk_at "z"
          refine ⟨rfl, ⟨_, rfl⟩, ?_⟩
          rw [take_snoc hc]
          exact allD_snoc had hd
        · have ec : (!decide (c ∈ ("0123456789" : Str).cps.toList)) = true := by
            rw [decide_eq_false fun z => hd (mem_digits.mp z)]
            rfl
          refine zif_t ec ?_
          walk_at "z"
          exact bad _ _ (by assumption) (isNum_all hc hd)
      · intro σ H2 hh
        obtain ⟨eH, ⟨o1, eS⟩, had⟩ := hh
        rw [eH, eS]
        rw [List.take_length] at had
        have n := isNum_of hw hw3 e1 hz had
        walk_at "z"
        refine ⟨⟨_, ⟨int_of_num n, by have := n.1.2; omega⟩, ?_⟩⟩
        exact hY n
    · walk_at "z"
      refine ⟨⟨_, e0, ?_⟩⟩
      walk_at "z"
      refine ⟨fun h2 => ?_, fun h2 => ?_⟩
      · walk_at "z"
        refine ⟨fun h1 => ?_, fun h1 => ?_⟩
        · walk_at "z"
          exact bad _ _ (by assumption) (isNum_zero e1 (of_decide_eq_true h1) (of_decide_eq_true h2))
        · walk_at "z"
          exact hU _ _ ⟨rfl, rfl, .inl fun z => h1 (decide_eq_true z)⟩
      · walk_at "z"
        exact hU _ _ ⟨rfl, rfl, .inr fun z => h2 (decide_eq_true z)⟩
  walk_at "z"
  refine ⟨fun hc => ?_, fun hc => ?_⟩
  · walk_at "z"
    refine bad _ _ (by assumption) fun n => ?_
    have := str_nil.mp (of_decide_eq_true hc)
    have := n.1.1
    omega
  have hw : wd.length ≠ 0 := fun z => hc (decide_eq_true (str_nil.mpr z))
  walk_at "z"
  refine ⟨fun hc2 => ?_, fun hc2 => ?_⟩
  · walk_at "z"
    refine bad _ _ (by assumption) fun n => ?_
    have := of_decide_eq_true hc2
    have := n.1.2
    omega
  have hw3 : ¬ (3 < (wd.length : Int)) := fun z => hc2 (decide_eq_true z)
  walk_at "z"
  exact hU _ _ ⟨rfl, rfl, hw, hw3⟩
theorem sc_fits_side : FnScope ["up", "down", "side"] ["up", "down", "side"] (defScope st_fits_side) := ⟨rfl, rfl, rfl, by decide +kernel, rfl, by decide +kernel, by decide +kernel⟩
theorem g_fits_side (h : Hd P w K mg) : GFn true P w K mg base 1 "fits_side" ["up", "down", "side"] spFits := by
  refine gfn_mk (k := 0) h.d_fits_side h.gd_fits_side sc_fits_side (fun kV doc pm an cdv ct us hl => match us, hl with | [_, _, _], _ => rfl) (fun vs H Q E q => by obtain ⟨u, d, s, rfl, _⟩ := q; rfl) (fun cdv A outer s H vs Q E pn cz hsp => ⟨_, (pss_cons (z_if (PW.pt (zt_or (zt_cmp zEq_ok (z_v 0) pe_int) (zt_or1 (zt_cmp zEq_ok (z_v 1) pe_int)))) (pss_one (ps_ret (z_cmp zEq_ok (z_v 2) pe_str))) pss_nil) (pss_one (ps_ret (z_or (z_cmp zEq_ok (z_v 2) pe_str) (pe_one (z_cmp zEq_ok (z_v 2) pe_str)))))), ?_⟩)
  obtain ⟨u, d, s, rfl, hQ⟩ := hsp
  refine zcut (fun σ H' => H' = H ∧ σ = [some (.int u), some (.int d), some (.str s)] ∧ ¬ (u = 0 ∨ d = 0)) ?_ fun U hU => ?_
  · intro σ H' hh
    obtain ⟨eH, eS, hn⟩ := hh
    rw [eH, eS]
    walk_at "z"
    refine ⟨fun hc => ?_, fun hc => ?_⟩
    · walk_at "z"
      refine hQ _ ?_
      have e := of_decide_eq_true hc
      exact ⟨fun _ => .inr ⟨⟨fun z => hn (.inl z), fun z => hn (.inr z)⟩, .inl e⟩, fun _ => rfl⟩
    · walk_at "z"
      refine hQ _ ?_
      rw [decide_eq_true_eq]
      constructor
      · intro e
        exact .inr ⟨⟨fun z => hn (.inl z), fun z => hn (.inr z)⟩, .inr e⟩
      · rintro (⟨z, _⟩ | ⟨_, e | e⟩)
        · exact (hn z).elim
        · exact (hc (decide_eq_true e)).elim
        · exact e
  have fin : (u = 0 ∨ d = 0) → Q (.bl (decide (s = "line"))) H := fun z => by
    refine hQ _ ?_
    rw [decide_eq_true_eq]
    constructor
    · intro e
      exact .inl ⟨z, e⟩
    · rintro (⟨_, e⟩ | ⟨⟨n1, n2⟩, _⟩)
      · exact e
      · rcases z with z | z
        · exact (n1 z).elim
        · exact (n2 z).elim
  walk_at "z"
  refine ⟨fun hc => ?_, fun hc => ?_⟩
  · walk_at "z"
    exact fin (.inl (of_decide_eq_true hc))
  walk_at "z"
  refine ⟨fun hc2 => ?_, fun hc2 => ?_⟩
  · walk_at "z"
    exact fin (.inr (of_decide_eq_true hc2))
  walk_at "z"
  refine hU _ _ ⟨rfl, rfl, ?_⟩
  rintro (z | z)
  · exact hc (decide_eq_true z)
  · exact hc2 (decide_eq_true z)
theorem sc_line_word : FnScope ["up", "down"] ["up", "down"] (defScope st_line_word) := ⟨rfl, rfl, rfl, by decide +kernel, rfl, by decide +kernel, by decide +kernel⟩
theorem g_line_word (h : Hd P w K mg) : GFn true P w K mg base 1 "line_word" ["up", "down"] spLineW := by
  refine gfn_mk (k := 0) h.d_line_word h.gd_line_word sc_line_word (fun kV doc pm an cdv ct us hl => match us, hl with | [_, _], _ => rfl) (fun vs H Q E q => by obtain ⟨u, d, rfl, _⟩ := q; rfl) (fun cdv A outer s H vs Q E pn cz hsp => ⟨_, (pss_cons (z_if (PW.pt (zt_and (zt_cmp zEq_ok (z_v 0) pe_int) (zt_and1 (zt_cmp zEq_ok (z_v 1) pe_int)))) (pss_one (ps_ret pe_str)) pss_nil) (pss_cons (z_if (zt_cmp zEq_ok (z_v 0) pe_int) (pss_one (ps_ret (z_ife (zt_cmp zEq_ok (z_v 1) pe_int) pe_str pe_str))) pss_nil) (pss_one (ps_ret (z_ife (zt_cmp zEq_ok (z_v 0) pe_int) pe_str pe_str))))), ?_⟩)
  obtain ⟨u, d, rfl, hQ⟩ := hsp
  unfold lineW at hQ
  refine zcut (fun σ H' => H' = H ∧ σ = [some (.int u), some (.int d)] ∧ ¬ (u = 0 ∧ d = 0)) ?_ fun U hU => ?_
  · intro σ H' hh
    obtain ⟨eH, eS, hn⟩ := hh
    rw [eH, eS]
    rw [if_neg hn] at hQ
    walk_at "z"
    refine ⟨fun hc => ?_, fun hc => ?_⟩
    · rw [if_pos (of_decide_eq_true hc)] at hQ
      walk_at "z"
      refine ⟨fun hc => ?_, fun hc => ?_⟩
      · rw [if_pos (of_decide_eq_true hc)] at hQ
        walk_at "z"
        exact hQ
      · rw [if_neg (fun z => hc (decide_eq_true z))] at hQ
        walk_at "z"
        exact hQ
    · rw [if_neg (fun z => hc (decide_eq_true z))] at hQ
      walk_at "z"
      refine ⟨fun hc => ?_, fun hc => ?_⟩
      · rw [if_pos (of_decide_eq_true hc)] at hQ
        walk_at "z"
        exact hQ
      · rw [if_neg (fun z => hc (decide_eq_true z))] at hQ
        walk_at "z"
        exact hQ
  walk_at "z"
  refine ⟨fun hc => ?_, fun hc => ?_⟩
  · walk_at "z"
    refine ⟨fun hc2 => ?_, fun hc2 => ?_⟩
    · rw [if_pos ⟨of_decide_eq_true hc, of_decide_eq_true hc2⟩] at hQ
      walk_at "z"
      exact hQ
    · walk_at "z"
      exact hU _ _ ⟨rfl, rfl, fun z => hc2 (decide_eq_true z.2)⟩
  · walk_at "z"
    exact hU _ _ ⟨rfl, rfl, fun z => hc (decide_eq_true z.1)⟩
theorem sc__law_start : FnScope ["script"] ["script"] (defScope st__law_start) := ⟨rfl, rfl, rfl, by decide +kernel, rfl, by decide +kernel, by decide +kernel⟩
theorem g__law_start (h : Hd P w K mg) : GFn true P w K mg base 1 "_law_start" ["script"] (spStart K) := by
  refine gfn_mk (k := 0) h.d__law_start h.gd__law_start sc__law_start (fun kV doc pm an cdv ct us hl => match us, hl with | [_], _ => rfl) (fun vs H Q E q => by obtain ⟨a, ns, cs, rfl, _⟩ := q; rfl) (fun cdv A outer s H vs Q E pn cz hsp => ⟨_, (pss_one (ps_ret (z_lst (pa_cons (z_callT (k_list K rfl) h.fr_list (by decide +kernel) (pa_cons (z_v 0) pa_nil)) (pa_cons pe_int (pa_cons pe_int (pa_cons pe_int (pa_cons pe_int pa_nil)))))))), ?_⟩)
  have cl_Kin := h.cl_Kin
  have ow_Kin := h.ow_Kin
  have na_Kin_up := h.na_Kin_up
  have na_Kin_down := h.na_Kin_down
  have na_Kin_side := h.na_Kin_side
  have na_Kin_far := h.na_Kin_far
  have na_Kin_rank := h.na_Kin_rank
  have t_SIDES := h.t_SIDES
  obtain ⟨u_Kin_MOST, cn_Kin_MOST⟩ := h.cn_Kin_MOST
  obtain ⟨a, ns, cs, rfl, hS, hn, hO, hQ⟩ := hsp
  conv => whnf
  refine ⟨true, _, hS, ?_⟩
  walk_at "z"
  rename_i o
  exact hQ _ _ (Own.cls ⟨_, ns, 0, 0, 0, 0⟩ ⟨Int.le_refl 0, hn⟩ o)
theorem sc__law_draw : FnScope ["state", "many", "value", "mixed"] ["state", "many"] (defScope st__law_draw) := ⟨rfl, rfl, rfl, by decide +kernel, rfl, by decide +kernel, by decide +kernel⟩
theorem g__law_draw (h : Hd P w K mg) : GFn true P w K mg base 1 "_law_draw" ["state", "many"] spDraw := by
  refine gfn_mk (k := 0) h.d__law_draw h.gd__law_draw sc__law_draw (fun kV doc pm an cdv ct us hl => match us, hl with | [_, _], _ => rfl) (fun vs H Q E q => by obtain ⟨a, ns, cs, rfl, _⟩ := q; rfl) (fun cdv A outer s H vs Q E pn cz hsp => ⟨_, (pss_cons (z_if (zt_cmp zEq_ok (k_ix K rfl (z_v 0) pe_int) pe_int) (pss_cons (z_if (zt_cmp zGe_ok (k_ix K rfl (z_v 0) pe_int) (z_callB (k_len K rfl) h.fr_len (by decide +kernel) (pa_cons (k_ix K rfl (z_v 0) pe_int) pa_nil))) (pss_one (ps_ret pe_int)) pss_nil) (pss_cons (z_setIx (z_v 0) pe_int (k_ix K rfl (k_ix K rfl (z_v 0) pe_int) (k_ix K rfl (z_v 0) pe_int)) zSetL_ok) (pss_cons (z_setIx (z_v 0) pe_int (z_bin zAdd_ok (k_ix K rfl (z_v 0) pe_int) pe_int) zSetL_ok) (pss_cons (z_setIx (z_v 0) pe_int pe_int zSetL_ok) (pss_cons (z_setIx (z_v 0) pe_int pe_int zSetL_ok) (pss_one (z_if (zt_cmp zGe_ok (k_ix K rfl (z_v 0) pe_int) (z_bin zPow_ok pe_int pe_int)) (pss_cons (z_setIx (z_v 0) pe_int pe_int zSetL_ok) (pss_one (z_setIx (z_v 0) pe_int pe_int zSetL_ok))) pss_nil))))))) pss_nil) (pss_cons (z_setIx (z_v 0) pe_int (z_bin zSub_ok (k_ix K rfl (z_v 0) pe_int) pe_int) zSetL_ok) (pss_cons (z_if (zt_cmp zEq_ok (k_ix K rfl (z_v 0) pe_int) pe_int) (pss_cons (z_set 2 (z_bin zMod_ok (z_callT zIntF_ok h.fr_int (by decide +kernel) (pa_cons (k_ix K rfl (z_v 0) pe_int) pa_nil)) (z_v 1)) sc__law_draw.nd) (pss_cons (z_setIx (z_v 0) pe_int (z_bin zFdv_ok (z_callT zIntF_ok h.fr_int (by decide +kernel) (pa_cons (k_ix K rfl (z_v 0) pe_int) pa_nil)) (z_v 1)) zSetL_ok) (pss_cons (z_if (zt_cmp zEq_ok (k_ix K rfl (z_v 0) pe_int) pe_int) (pss_one (z_setIx (z_v 0) pe_int pe_int zSetL_ok)) pss_nil) (pss_one (ps_ret (z_v 2)))))) pss_nil) (pss_cons (z_set 3 (z_bin zMod_ok (z_callT zIntF_ok h.fr_int (by decide +kernel) (pa_cons (z_bin zAdd_ok (z_bin zAdd_ok (z_bin zMul_ok (k_ix K rfl (z_v 0) pe_int) pe_int) (z_bin zMul_ok (k_ix K rfl (z_v 0) pe_int) pe_int)) pe_int) pa_nil)) pe_int) sc__law_draw.nd) (pss_cons (z_set 3 (z_bin zMod_ok (z_callT zIntF_ok h.fr_int (by decide +kernel) (pa_cons (z_bin zAdd_ok (z_bin zAdd_ok (z_bin zMul_ok (z_v 3) pe_int) (z_bin zFdv_ok (z_v 3) pe_int)) pe_int) pa_nil)) pe_int) sc__law_draw.nd) (pss_one (ps_ret (z_bin zMod_ok (z_callT zIntF_ok h.fr_int (by decide +kernel) (pa_cons (z_v 3) pa_nil)) (z_v 1))))))))), ?_⟩)
  have cl_Kin := h.cl_Kin
  have ow_Kin := h.ow_Kin
  have na_Kin_up := h.na_Kin_up
  have na_Kin_down := h.na_Kin_down
  have na_Kin_side := h.na_Kin_side
  have na_Kin_far := h.na_Kin_far
  have na_Kin_rank := h.na_Kin_rank
  have t_SIDES := h.t_SIDES
  obtain ⟨u_Kin_MOST, cn_Kin_MOST⟩ := h.cn_Kin_MOST
  obtain ⟨a, many, cs, rfl, hm, hm2, hO, hQ⟩ := hsp
  obtain ⟨s, hs, hO⟩ := hO.opn
  have hO : Own (drL a s cs) H := hO
  refine zcut (fun σ H => ∃ s : DrS, 0 ≤ s.i ∧ s.ns.length ≤ 63 ∧ σ = [some (.ref a), some (.int many), none, none] ∧ Own (drL a s cs) H) ?_ fun U hU => ?_
  · rintro σ H ⟨s, h0, h1, rfl, hO⟩
    walk_at "z"
    refine ⟨fun hc => ?_, fun hc => ?_⟩
    · walk_at "z"
      refine ⟨⟨hm, ?_⟩, ?_⟩
      · have : many.natAbs < 2 ^ 64 := by omega
        exact Nat.lt_of_lt_of_le (PySem.Flt.log2_lt_of (by decide) this) (by decide)
      walk_at "z"
      rename_i o
      refine ⟨fun hc => ?_, fun hc => ?_⟩
      · walk_at "z"
        rename_i o
        exact hQ _ _ (Int.emod_nonneg _ (by omega)) (Int.emod_lt_of_pos _ hm) (drL_cls (s := ⟨s.p, s.ns, s.i, s.v / many, 0, s.m⟩) o h0 h1)
      · walk_at "z"
        exact hQ _ _ (Int.emod_nonneg _ (by omega)) (Int.emod_lt_of_pos _ hm) (drL_cls (s := ⟨s.p, s.ns, s.i, s.v / many, s.c - 1, s.m⟩) o h0 h1)
    · walk_at "z"
      rename_i o
      exact hQ _ _ (Int.emod_nonneg _ (by omega)) (Int.emod_lt_of_pos _ hm) (drL_cls (s := ⟨s.p, s.ns, s.i, s.v, s.c - 1, s.m⟩) o h0 h1)
  · walk_at "z"
    refine ⟨fun hc => ?_, fun hc => ?_⟩
    · walk_at "z"
      refine ⟨fun hc => ?_, fun hc => ?_⟩
      · walk_at "z"
        exact hQ _ _ (Int.le_refl 0) hm (drL_cls hO hs.1 hs.2)
      · have hlt : s.i < s.ns.length := by
          simp only [decide_eq_true_eq, List.length_map] at hc
          omega
        obtain ⟨v, hv⟩ := at_ns hs.1 hlt
        walk_at "z"
        refine ⟨⟨_, hv, ?_⟩⟩
        walk_at "z"
        have k0 : 0 ≤ s.i + 1 := by omega
        refine ⟨fun hc => ?_, fun hc => ?_⟩
        · walk_at "z"
          rename_i o
          exact hU _ _ ⟨⟨s.p, s.ns, s.i + 1, v, 60, 1⟩, k0, hs.2, rfl, o⟩
        · walk_at "z"
          rename_i o
          exact hU _ _ ⟨⟨s.p, s.ns, s.i + 1, v, 10, 0⟩, k0, hs.2, rfl, o⟩
    · exact hU _ _ ⟨s, hs.1, hs.2, rfl, hO⟩
theorem sc__law_is_number : FnScope ["actual"] ["actual"] (defScope st__law_is_number) := ⟨rfl, rfl, rfl, by decide +kernel, rfl, by decide +kernel, by decide +kernel⟩
theorem g__law_is_number {m : Bool} (h : Hd P w K mg) : GFn m P w K mg base 1 "_law_is_number" ["actual"] spIsN := by
  refine gfn_mk (k := 0) h.d__law_is_number h.gd__law_is_number sc__law_is_number (fun kV doc pm an cdv ct us hl => match us, hl with | [_], _ => rfl) (fun vs H Q E q => by obtain ⟨x, rfl, _⟩ := q; rfl) (fun cdv A outer s H vs Q E pn cz hsp => ⟨_, (pss_one (ps_ret (z_and (k_isT K rfl .int h.fr_isinstance h.fr_int (z_v 0)) (pe_one (z_not (k_isT K rfl .bool h.fr_isinstance h.fr_bool (z_v 0))))))), ?_⟩)
  have cl_Kin := h.cl_Kin
  have ow_Kin := h.ow_Kin
  have na_Kin_up := h.na_Kin_up
  have na_Kin_down := h.na_Kin_down
  have na_Kin_side := h.na_Kin_side
  have na_Kin_far := h.na_Kin_far
  have na_Kin_rank := h.na_Kin_rank
  have t_SIDES := h.t_SIDES
  obtain ⟨u_Kin_MOST, cn_Kin_MOST⟩ := h.cn_Kin_MOST
  obtain ⟨x, rfl, hx, hQ⟩ := hsp
  cases x <;> first | exact hx.elim | skip
  all_goals (walk_at "z"; exact hQ)
theorem sc__law_same : FnScope ["actual", "expected", "k"] ["actual", "expected"] (defScope st__law_same) := ⟨rfl, rfl, rfl, by decide +kernel, rfl, by decide +kernel, by decide +kernel⟩
theorem g__law_same {m : Bool} (h : Hd P w K mg) : ∀ n, GFn m P w K mg base (n + 2) "_law_same" ["actual", "expected"] (spSame K n) := by
  have key : ∀ n j sp0, GFn m P w K mg base j "_law_same" ["actual", "expected"] sp0 → j ≤ n + 1 → (∀ n', n = n' + 1 → sp0 = spSame K n') → GFn m P w K mg base (n + 2) "_law_same" ["actual", "expected"] (spSame K n) := by
    intro n j sp0 ih hj hs0
    refine gfn_mk (k := n + 1) h.d__law_same h.gd__law_same sc__law_same (fun kV doc pm an cdv ct us hl => match us, hl with | [_, _], _ => rfl) (fun vs H Q E q => by obtain ⟨x, y, b, rfl, _⟩ := q; rfl) (fun cdv A outer s H vs Q E pn cz hsp => ⟨_, (pss_cons (z_if (zt_cmp zIsN_ok (z_v 1) pe_non) (pss_one (ps_ret (z_cmp zIsN_ok (z_v 0) pe_non))) pss_nil) (pss_cons (z_if (k_t K rfl (k_isT K rfl .bool h.fr_isinstance h.fr_bool (z_v 1))) (pss_one (ps_ret (z_and (k_isT K rfl .bool h.fr_isinstance h.fr_bool (z_v 0)) (pe_one (z_cmp zEq_ok (z_v 0) (z_v 1)))))) pss_nil) (pss_cons (z_if (k_t K rfl (k_isT K rfl .int h.fr_isinstance h.fr_int (z_v 1))) (pss_one (ps_ret (z_and (z_call cz (g__law_is_number (K := K) h) (by omega) (pa_cons (z_v 0) pa_nil)) (pe_one (z_cmp zEq_ok (z_v 0) (z_v 1)))))) pss_nil) (pss_cons (z_if (k_t K rfl (k_isT K rfl .str h.fr_isinstance h.fr_str (z_v 1))) (pss_one (ps_ret (z_and (k_isT K rfl .str h.fr_isinstance h.fr_str (z_v 0)) (pe_one (z_cmp zEq_ok (z_v 0) (z_v 1)))))) pss_nil) (pss_cons (z_if (k_t K rfl (k_isT K rfl .list h.fr_isinstance h.fr_list (z_v 1))) (pss_one (z_if (PW.pt (zt_or (zt_not (k_t K rfl (k_isT K rfl .list h.fr_isinstance h.fr_list (z_v 0)))) (zt_or1 (zt_cmp zNe_ok (z_callB (k_len K rfl) h.fr_len (by decide +kernel) (pa_cons (z_v 0) pa_nil)) (z_callB (k_len K rfl) h.fr_len (by decide +kernel) (pa_cons (z_v 1) pa_nil)))))) (pss_one (ps_ret pe_bl)) pss_nil)) (pss_one (z_if (PW.pt (zt_or (zt_not (k_t K rfl (k_isT K rfl .tuple h.fr_isinstance h.fr_tuple (z_v 1)))) (zt_or (zt_not (k_t K rfl (k_isT K rfl .tuple h.fr_isinstance h.fr_tuple (z_v 0)))) (zt_or1 (zt_cmp zNe_ok (z_callB (k_len K rfl) h.fr_len (by decide +kernel) (pa_cons (z_v 0) pa_nil)) (z_callB (k_len K rfl) h.fr_len (by decide +kernel) (pa_cons (z_v 1) pa_nil))))))) (pss_one (ps_ret pe_bl)) pss_nil))) (pss_cons (z_forR cz h.fr_range (pa_cons (z_callB (k_len K rfl) h.fr_len (by decide +kernel) (pa_cons (z_v 1) pa_nil)) pa_nil) (zg_name 2 sc__law_same.nd) (pss_one (z_if (zt_not (k_t K rfl (z_call cz ih (by omega) (pa_cons (k_ix K rfl (z_v 0) (z_v 2)) (pa_cons (k_ix K rfl (z_v 1) (z_v 2)) pa_nil))))) (pss_one (ps_ret pe_bl)) pss_nil))) (pss_one (ps_ret pe_bl)))))))), ?_⟩)
    obtain ⟨x, y, b, rfl, hxy, hQ⟩ := hsp
    by_cases hsc : scV x ∧ scV y
    · have sc : ∀ b', b' = decide (x = y) → Q (.bl b') H := fun b' e => by
        rcases hxy with ⟨_, _, e2⟩ | ⟨e2, hS⟩
        · rw [e, ← e2]
          exact hQ
        · have e3 : x = y := by
            cases n with
            | zero => exact hS.2
            | succ n =>
              rcases hS with hS | ⟨a, b, xs, ys, rfl, _⟩
              · exact hS.2
              · exact hsc.1.elim
          rw [e, decide_eq_true e3, ← e2]
          exact hQ
      obtain ⟨h1, h2⟩ := hsc
      cases y with
      | int j => cases x <;> first | exact h1.elim | (walk_at "z"; refine ⟨⟨_, rfl, h1, ?_⟩⟩; walk_at "z"; exact sc _ (by simp))
      | non => cases x <;> first | exact h1.elim | (walk_at "z"; exact sc _ (by simp))
      | bl j => cases x <;> first | exact h1.elim | (walk_at "z"; exact sc _ (by simp))
      | str j => cases x <;> first | exact h1.elim | (walk_at "z"; exact sc _ (by simp))
      | _ => exact h2.elim
    · rcases hxy with ⟨h1, h2, _⟩ | ⟨e2, hS⟩
      · exact (hsc ⟨h1, h2⟩).elim
      cases n with
      | zero => exact (hsc ⟨hS.1, hS.2 ▸ hS.1⟩).elim
      | succ n =>
      rcases hS with hS | ⟨a, c, xs, ys, rfl, rfl, hq, hl, hp⟩
      · exact (hsc ⟨hS.1, hS.2 ▸ hS.1⟩).elim
      have hle : xs.length = ys.length := Paired.length hp
      have hne : ¬ ((!decide ((xs.length : Int) = (ys.length : Int))) = true) := by simp [hle]
      subst e2
      have es := hs0 n rfl
      subst es
      rcases hq with ⟨q1, q2⟩ | ⟨q1, q2⟩
      all_goals
        walk_at "z"
        refine zif_f hne ?_
        walk_at "z"
        refine zloop_r (fun i σ H' => H' = H ∧ ∃ o, σ = [some (.ref a), some (.ref c), o]) ⟨rfl, none, rfl⟩ ?_ ?_
        · rintro i σ H' hi ⟨rfl, o, rfl⟩
          obtain ⟨x, y, ex, ey, sxy⟩ := paired_at hp i (by omega)
          walk_at "z"
          refine ⟨⟨_, atI_0 ex, ?_⟩⟩
          walk_at "z"
          refine ⟨⟨_, atI_0 ey, ?_⟩⟩
          walk_at "z"
          refine ⟨⟨_, _, _, rfl, .inr ⟨rfl, sxy⟩, ?_⟩⟩
          walk_at "z"
          exact ⟨rfl, _, rfl⟩
        · rintro σ H' ⟨rfl, o, rfl⟩
          walk_at "z"
          exact hQ
  intro n
  induction n with
  | zero => exact key 0 1 _ (gfn_mk (k := 0) (sp := fun _ _ _ _ => False) h.d__law_same h.gd__law_same sc__law_same (fun kV doc pm an cdv ct us hl => match us, hl with | [_, _], _ => rfl) (fun _ _ _ _ q => q.elim) (fun _ _ _ _ _ _ _ _ _ _ q => q.elim)) (by omega) fun _ e => by cases e
  | succ n ih => exact key (n + 1) (n + 2) _ ih (by omega) fun n' e => by cases e; rfl
theorem sc__law_sides : FnScope ["up", "down"] ["up", "down"] (defScope st__law_sides) := ⟨rfl, rfl, rfl, by decide +kernel, rfl, by decide +kernel, by decide +kernel⟩
theorem g__law_sides (h : Hd P w K mg) : GFn true P w K mg base 1 "_law_sides" ["up", "down"] spSides := by
  refine gfn_mk (k := 0) h.d__law_sides h.gd__law_sides sc__law_sides (fun kV doc pm an cdv ct us hl => match us, hl with | [_, _], _ => rfl) (fun vs H Q E q => by obtain ⟨u, d, cs, rfl, _⟩ := q; rfl) (fun cdv A outer s H vs Q E pn cz hsp => ⟨_, (pss_cons (z_if (PW.pt (zt_or (zt_cmp zEq_ok (z_v 0) pe_int) (zt_or1 (zt_cmp zEq_ok (z_v 1) pe_int)))) (pss_one (ps_ret (z_lst (pa_cons pe_str pa_nil)))) pss_nil) (pss_one (ps_ret (z_lst (pa_cons pe_str (pa_cons pe_str pa_nil)))))), ?_⟩)
  obtain ⟨u, d, cs, rfl, hO, hQ⟩ := hsp
  unfold sidesOf at hQ
  walk_at "z"
  refine ⟨fun hc => ?_, fun hc => ?_⟩
  · rw [if_pos (.inl (of_decide_eq_true hc))] at hQ
    walk_at "z"
    exact hQ _ _ (by assumption)
  walk_at "z"
  refine ⟨fun hc2 => ?_, fun hc2 => ?_⟩
  · rw [if_pos (.inr (of_decide_eq_true hc2))] at hQ
    walk_at "z"
    exact hQ _ _ (by assumption)
  rw [if_neg (fun z => z.elim (fun z => hc (decide_eq_true z)) fun z => hc2 (decide_eq_true z))] at hQ
  walk_at "z"
  exact hQ _ _ (by assumption)
theorem sc__law_other_side : FnScope ["side"] ["side"] (defScope st__law_other_side) := ⟨rfl, rfl, rfl, by decide +kernel, rfl, by decide +kernel, by decide +kernel⟩
theorem g__law_other_side (h : Hd P w K mg) : GFn true P w K mg base 1 "_law_other_side" ["side"] spOther := by
  refine gfn_mk (k := 0) h.d__law_other_side h.gd__law_other_side sc__law_other_side (fun kV doc pm an cdv ct us hl => match us, hl with | [_], _ => rfl) (fun vs H Q E q => by obtain ⟨s, rfl, _⟩ := q; rfl) (fun cdv A outer s H vs Q E pn cz hsp => ⟨_, (pss_cons (z_if (zt_cmp zEq_ok (z_v 0) pe_str) (pss_one (ps_ret pe_str)) pss_nil) (pss_cons (z_if (zt_cmp zEq_ok (z_v 0) pe_str) (pss_one (ps_ret pe_str)) pss_nil) (pss_one (ps_ret (z_v 0))))), ?_⟩)
  obtain ⟨s, rfl, hQ⟩ := hsp
  unfold othS at hQ
  walk_at "z"
  refine ⟨fun hc => ?_, fun hc => ?_⟩
  · rw [if_pos (of_decide_eq_true hc)] at hQ
    walk_at "z"
    exact hQ
  rw [if_neg (fun z => hc (decide_eq_true z))] at hQ
  walk_at "z"
  refine ⟨fun hc => ?_, fun hc => ?_⟩
  · rw [if_pos (of_decide_eq_true hc)] at hQ
    walk_at "z"
    exact hQ
  · rw [if_neg (fun z => hc (decide_eq_true z))] at hQ
    walk_at "z"
    exact hQ
theorem sc__law_minus : FnScope ["parts"] ["parts"] (defScope st__law_minus) := ⟨rfl, rfl, rfl, by decide +kernel, rfl, by decide +kernel, by decide +kernel⟩
theorem g__law_minus (h : Hd P w K mg) : GFn true P w K mg base 2 "_law_minus" ["parts"] spMinus := by
  refine gfn_mk (k := 1) h.d__law_minus h.gd__law_minus sc__law_minus (fun kV doc pm an cdv ct us hl => match us, hl with | [_], _ => rfl) (fun vs H Q E q => by obtain ⟨p, u, d, s, cs, rfl, _⟩ := q; rfl) (fun cdv A outer s H vs Q E pn cz hsp => ⟨_, (pss_one (ps_ret (z_tup (pa_cons (k_ix K rfl (z_v 0) pe_int) (pa_cons (k_ix K rfl (z_v 0) pe_int) (pa_cons (z_call cz (g__law_other_side (K := K) h) (by omega) (pa_cons (k_ix K rfl (z_v 0) pe_int) pa_nil)) pa_nil)))))), ?_⟩)
  obtain ⟨p, u, d, s, cs, rfl, hm, hO, hQ⟩ := hsp
  walk_at "z"
  refine ⟨⟨_, rfl, ?_⟩⟩
  walk_at "z"
  exact hQ _ _ (by assumption)
theorem sc_Kin___init__ : FnScope ["self", "up", "down", "side"] ["self", "up", "down", "side"] (defScope st_Kin___init__) := ⟨rfl, rfl, rfl, by decide +kernel, rfl, by decide +kernel, by decide +kernel⟩
theorem g_Kin___init__ (h : Hd P w K mg) : MFn P w K mg base 3 (He.ma K (He.ga K "Kin") "__init__") ["self", "up", "down", "side"] (spKinInit K) := by
  refine mfn_mk (k := 2) h.d_Kin___init__ sc_Kin___init__ (fun kV doc pm an cdv ct us hl => match us, hl with | [_, _, _, _], _ => rfl) (fun vs H Q E q => by obtain ⟨x, dx, u, d, s, cs, rfl, _⟩ := q; rfl) (fun cdv A outer s H vs Q E pn cz hsp => ⟨_, (pss_cons (z_if (PW.pt (zt_or (zt_not (zt_chain zLe_ok zLe_ok pe_int (z_v 1) (z_cn K rfl (z_v 0)))) (zt_or (zt_not (zt_chain zLe_ok zLe_ok pe_int (z_v 2) (z_cn K rfl (z_v 0)))) (zt_or1 (zt_not (k_t K rfl (z_call cz (g_fits_side (K := K) h) (by omega) (pa_cons (z_v 1) (pa_cons (z_v 2) (pa_cons (z_v 3) pa_nil)))))))))) (pss_one (z_raise cz (er_BadKin (K := K) h) (by decide) (pa_cons (z_v 1) (pa_cons (z_v 2) (pa_cons (z_v 3) pa_nil))))) pss_nil) (pss_cons (z_fset K rfl (z_v 0) (z_v 1)) (pss_cons (z_fset K rfl (z_v 0) (z_v 2)) (pss_cons (z_fset K rfl (z_v 0) (z_v 3)) (pss_cons (z_fset K rfl (z_v 0) (z_bin zAdd_ok (z_v 1) (z_v 2))) (pss_one (z_fset K rfl (z_v 0) (k_meth K rfl PySem.F.plainAttrs_tuple PySem.F.slot_tuple_index PySem.F.type_tuple_index (k_tindex K rfl) (pe_glob (v := .ref (He.ga K "SIDES")) rfl h.g_SIDES rfl) (pa_cons (z_v 3) pa_nil))))))))), ?_⟩)
  have cl_Kin := h.cl_Kin
  have ow_Kin := h.ow_Kin
  have na_Kin_up := h.na_Kin_up
  have na_Kin_down := h.na_Kin_down
  have na_Kin_side := h.na_Kin_side
  have na_Kin_far := h.na_Kin_far
  have na_Kin_rank := h.na_Kin_rank
  have t_SIDES := h.t_SIDES
  obtain ⟨u_Kin_MOST, cn_Kin_MOST⟩ := h.cn_Kin_MOST
  obtain ⟨x, dx, u, d, s, cs, rfl, hO, hY, hN⟩ := hsp
  have bad : ¬ okKin u d s → ∀ e H', Own (pt e (badKin u d s) :: pt x (.ins (He.ga K "Kin") dx []) :: pt dx (.own x) :: cs) H' → E (.ref (He.ga K "BadKin")) (some e) H' := fun n e H' o => hN n e H' o.swap.tail.swap.tail
  refine zcut (fun σ H' => H' = H ∧ σ = [some (.ref x), some (.int u), some (.int d), some (.str s)] ∧ okKin u d s) ?_ fun U hU => ?_
  · intro σ H' hh
    obtain ⟨eH, eS, ok⟩ := hh
    rw [eH, eS]
    walk_at "z"
    refine ⟨⟨["line", "elder", "younger"], rankS s, t_SIDES.sq _, ?_, ?_, ?_⟩⟩
    · rcases ok.2.2 with ⟨_, rfl⟩ | ⟨_, rfl | rfl⟩ <;> decide
    · rcases ok.2.2 with ⟨_, rfl⟩ | ⟨_, rfl | rfl⟩ <;> decide
    · walk_at "z"
      exact hY ok _ (kin_cls ok (by assumption))
  walk_at "z"
  refine ⟨fun c1 => ?_, fun c1 => ?_⟩
  rotate_left
  · walk_at "z"
    exact bad (fun ok => c1 (decide_eq_true ok.1.1)) _ _ (by assumption)
  walk_at "z"
  refine ⟨fun c2 => ?_, fun c2 => ?_⟩
  · walk_at "z"
    refine bad (fun ok => ?_) _ _ (by assumption)
    rw [decide_eq_true ok.1.2] at c2
    cases c2
  walk_at "z"
  refine ⟨fun c3 => ?_, fun c3 => ?_⟩
  rotate_left
  · walk_at "z"
    exact bad (fun ok => c3 (decide_eq_true ok.2.1.1)) _ _ (by assumption)
  walk_at "z"
  refine ⟨fun c4 => ?_, fun c4 => ?_⟩
  · walk_at "z"
    refine bad (fun ok => ?_) _ _ (by assumption)
    rw [decide_eq_true ok.2.1.2] at c4
    cases c4
  walk_at "z"
  refine ⟨⟨u, d, s, rfl, fun b hb => ?_⟩⟩
  cases b with
  | true =>
    walk_at "z"
    exact hU _ _ ⟨rfl, rfl, ⟨of_decide_eq_true c1, by simpa using c2⟩, ⟨of_decide_eq_true c3, by simpa using c4⟩, hb.mp rfl⟩
  | false =>
    walk_at "z"
    exact bad (fun ok => Bool.noConfusion (hb.mpr ok.2.2)) _ _ (by assumption)
theorem sc__law_kin : FnScope ["parts"] ["parts"] (defScope st__law_kin) := ⟨rfl, rfl, rfl, by decide +kernel, rfl, by decide +kernel, by decide +kernel⟩
theorem g__law_kin (h : Hd P w K mg) : GFn true P w K mg base 5 "_law_kin" ["parts"] (spMakeKin K) := by
  refine gfn_mk (k := 4) h.d__law_kin h.gd__law_kin sc__law_kin (fun kV doc pm an cdv ct us hl => match us, hl with | [_], _ => rfl) (fun vs H Q E q => by obtain ⟨p, u, d, s, cs, rfl, _⟩ := q; rfl) (fun cdv A outer s H vs Q E pn cz hsp => ⟨_, (pss_one (ps_ret (z_make cz h.mk_Kin (g_Kin___init__ (K := K) h) (by omega) h.g_Kin (pa_cons (k_ix K rfl (z_v 0) pe_int) (pa_cons (k_ix K rfl (z_v 0) pe_int) (pa_cons (k_ix K rfl (z_v 0) pe_int) pa_nil)))))), ?_⟩)
  have cl_Kin := h.cl_Kin
  have ow_Kin := h.ow_Kin
  have na_Kin_up := h.na_Kin_up
  have na_Kin_down := h.na_Kin_down
  have na_Kin_side := h.na_Kin_side
  have na_Kin_far := h.na_Kin_far
  have na_Kin_rank := h.na_Kin_rank
  have t_SIDES := h.t_SIDES
  obtain ⟨u_Kin_MOST, cn_Kin_MOST⟩ := h.cn_Kin_MOST
  obtain ⟨p, u, d, s, cs, rfl, hm, hO, hY, hN⟩ := hsp
  walk_at "z"
  refine ⟨⟨_, _, u, d, s, cs, rfl, by assumption, fun ok H' o => ⟨rfl, hY ok _ _ o⟩, fun n e H' o => hN n _ _ o⟩⟩
theorem sc__law_is_kin : FnScope ["actual", "parts"] ["actual", "parts"] (defScope st__law_is_kin) := ⟨rfl, rfl, rfl, by decide +kernel, rfl, by decide +kernel, by decide +kernel⟩
theorem g__law_is_kin (h : Hd P w K mg) : GFn true P w K mg base 4 "_law_is_kin" ["actual", "parts"] (spIsKin K) := by
  refine gfn_mk (k := 3) h.d__law_is_kin h.gd__law_is_kin sc__law_is_kin (fun kV doc pm an cdv ct us hl => match us, hl with | [_, _], _ => rfl) (fun vs H Q E q => by obtain ⟨a, p, u, d, s, cs, rfl, _⟩ := q; rfl) (fun cdv A outer s H vs Q E pn cz hsp => ⟨_, (pss_cons (z_if (zt_not (k_t K rfl (z_callB (k_isi K rfl) h.fr_isinstance (by decide +kernel) (pa_cons (z_v 0) (pa_cons (pe_glob (v := .ref (He.ga K "Kin")) rfl h.g_Kin rfl) pa_nil))))) (pss_one (ps_ret pe_bl)) pss_nil) (pss_one (ps_ret (z_call cz (g__law_same (K := K) h 1) (by omega) (pa_cons (z_lst (pa_cons (z_fld K rfl (z_v 0)) (pa_cons (z_fld K rfl (z_v 0)) (pa_cons (z_fld K rfl (z_v 0)) pa_nil)))) (pa_cons (z_lst (pa_cons (k_ix K rfl (z_v 1) pe_int) (pa_cons (k_ix K rfl (z_v 1) pe_int) (pa_cons (k_ix K rfl (z_v 1) pe_int) pa_nil)))) pa_nil)))))), ?_⟩)
  have cl_Kin := h.cl_Kin
  have ow_Kin := h.ow_Kin
  have na_Kin_up := h.na_Kin_up
  have na_Kin_down := h.na_Kin_down
  have na_Kin_side := h.na_Kin_side
  have na_Kin_far := h.na_Kin_far
  have na_Kin_rank := h.na_Kin_rank
  have t_SIDES := h.t_SIDES
  obtain ⟨u_Kin_MOST, cn_Kin_MOST⟩ := h.cn_Kin_MOST
  obtain ⟨a, p, u, d, s, cs, rfl, hk, hm, hO, hQ⟩ := hsp
  walk_at "z"
  rename_i o2
  refine ⟨⟨_, _, true, rfl, .inr ⟨rfl, .inr ⟨_, _, [_, _, _], [_, _, _], rfl, rfl, .inl ⟨SqL.of (o2.get (by walk_at "zm")), SqL.of (o2.get (by walk_at "zm"))⟩, (by show 3 ≤ 10000; decide), ?_⟩⟩, ?_⟩⟩
  · exact .cons ⟨True.intro, rfl⟩ (.cons ⟨True.intro, rfl⟩ (.cons ⟨True.intro, rfl⟩ .nil))
  · exact hQ _ o2.tail.tail
theorem sc__law_count : FnScope ["state", "kind"] ["state"] (defScope st__law_count) := ⟨rfl, rfl, rfl, by decide +kernel, rfl, by decide +kernel, by decide +kernel⟩
theorem g__law_count (h : Hd P w K mg) : GFn true P w K mg base 2 "_law_count" ["state"] spCount := by
  refine gfn_mk (k := 1) h.d__law_count h.gd__law_count sc__law_count (fun kV doc pm an cdv ct us hl => match us, hl with | [_], _ => rfl) (fun vs H Q E q => by obtain ⟨a, cs, rfl, _⟩ := q; rfl) (fun cdv A outer s H vs Q E pn cz hsp => ⟨_, (pss_cons (z_set 1 (z_call cz (g__law_draw (K := K) h) (by omega) (pa_cons (z_v 0) (pa_cons pe_int pa_nil))) sc__law_count.nd) (pss_cons (z_if (zt_cmp zEq_ok (z_v 1) pe_int) (pss_one (ps_ret (z_bin zAdd_ok pe_int (z_call cz (g__law_draw (K := K) h) (by omega) (pa_cons (z_v 0) (pa_cons pe_int pa_nil)))))) pss_nil) (pss_cons (z_if (zt_cmp zEq_ok (z_v 1) pe_int) (pss_one (ps_ret (z_call cz (g__law_draw (K := K) h) (by omega) (pa_cons (z_v 0) (pa_cons pe_int pa_nil))))) pss_nil) (pss_one (ps_ret (z_v 1)))))), ?_⟩)
  obtain ⟨a, cs, rfl, hO, hQ⟩ := hsp
  walk_at "z"
  refine ⟨⟨a, 6, cs, rfl, by decide, by decide, hO, fun r H1 h0 h1 o => ?_⟩⟩
  walk_at "z"
  refine ⟨fun hc => ?_, fun hc => ?_⟩
  · walk_at "z"
    refine ⟨⟨a, 40, cs, rfl, by decide, by decide, o, fun r H1 h0 h1 o => ?_⟩⟩
    walk_at "z"
    exact hQ _ _ (by omega) (by omega) o
  walk_at "z"
  refine ⟨fun hc => ?_, fun hc => ?_⟩
  · walk_at "z"
    refine ⟨⟨a, 1000, cs, rfl, by decide, by decide, o, fun r H1 h0 h1 o => ?_⟩⟩
    walk_at "z"
    exact hQ _ _ (by omega) (by omega) o
  walk_at "z"
  exact hQ _ _ (by omega) (by omega) o
theorem sc__law_line_word : FnScope ["up", "down"] ["up", "down"] (defScope st__law_line_word) := ⟨rfl, rfl, rfl, by decide +kernel, rfl, by decide +kernel, by decide +kernel⟩
theorem g__law_line_word (h : Hd P w K mg) : GFn true P w K mg base 1 "_law_line_word" ["up", "down"] spLawLine := by
  refine gfn_mk (k := 0) h.d__law_line_word h.gd__law_line_word sc__law_line_word (fun kV doc pm an cdv ct us hl => match us, hl with | [_, _], _ => rfl) (fun vs H Q E q => by obtain ⟨u, d, cs, rfl, _⟩ := q; rfl) (fun cdv A outer s H vs Q E pn cz hsp => ⟨_, (pss_cons (z_if (PW.pt (zt_and (zt_cmp zEq_ok (z_v 0) pe_int) (zt_and1 (zt_cmp zEq_ok (z_v 1) pe_int)))) (pss_one (ps_ret pe_str)) pss_nil) (pss_cons (z_if (zt_cmp zEq_ok (z_v 0) pe_int) (pss_one (ps_ret (k_ix K rfl (z_lst (pa_cons pe_str (pa_cons pe_str pa_nil))) (z_callB (zMin2_ok cz.calm) h.fr_min (by decide +kernel) (pa_cons pe_int (pa_cons (z_bin zSub_ok (z_v 1) pe_int) pa_nil)))))) pss_nil) (pss_one (ps_ret (k_ix K rfl (z_lst (pa_cons pe_str (pa_cons pe_str pa_nil))) (z_callB (zMin2_ok cz.calm) h.fr_min (by decide +kernel) (pa_cons pe_int (pa_cons (z_bin zSub_ok (z_v 0) pe_int) pa_nil)))))))), ?_⟩)
  obtain ⟨u, d, cs, rfl, h0, h1, hO, hz, hQ⟩ := hsp
  unfold lineW at hQ
  refine zcut (fun σ H' => H' = H ∧ σ = [some (.int u), some (.int d)] ∧ ¬ (u = 0 ∧ d = 0)) ?_ fun U hU => ?_
  · intro σ H' hh
    obtain ⟨eH, eS, hn⟩ := hh
    rw [eH, eS]
    simp only [if_neg hn] at hQ
    walk_at "z"
    refine ⟨fun hc => ?_, fun hc => ?_⟩
    · have hu := of_decide_eq_true hc
      simp only [if_pos hu] at hQ
      walk_at "z"
      by_cases hd : d = 1
      · subst hd
        simp only [if_true] at hQ
        refine ⟨⟨.str "child", rfl, ?_⟩⟩
        walk_at "z"
        exact hQ _ (Own.tail (by assumption))
      · simp only [if_neg hd] at hQ
        have e : (if d - 1 < 1 then d - 1 else 1) = 1 := if_neg (by omega)
        refine ⟨⟨.str "descendant", by rw [e]; rfl, ?_⟩⟩
        walk_at "z"
        exact hQ _ (Own.tail (by assumption))
    · have hu : ¬ u = 0 := fun z => hc (decide_eq_true z)
      simp only [if_neg hu] at hQ
      walk_at "z"
      by_cases hd : u = 1
      · subst hd
        simp only [if_true] at hQ
        refine ⟨⟨.str "parent", rfl, ?_⟩⟩
        walk_at "z"
        exact hQ _ (Own.tail (by assumption))
      · simp only [if_neg hd] at hQ
        have e : (if u - 1 < 1 then u - 1 else 1) = 1 := if_neg (by omega)
        refine ⟨⟨.str "ancestor", by rw [e]; rfl, ?_⟩⟩
        walk_at "z"
        exact hQ _ (Own.tail (by assumption))
  walk_at "z"
  refine ⟨fun hc => ?_, fun hc => ?_⟩
  · walk_at "z"
    refine ⟨fun hc2 => ?_, fun hc2 => ?_⟩
    · simp only [if_pos (And.intro (of_decide_eq_true hc) (of_decide_eq_true hc2))] at hQ
      walk_at "z"
      exact hQ _ hO
    · walk_at "z"
      exact hU _ _ ⟨rfl, rfl, fun z => hc2 (decide_eq_true z.2)⟩
  · walk_at "z"
    exact hU _ _ ⟨rfl, rfl, fun z => hc (decide_eq_true z.1)⟩
theorem sc__law_word : FnScope ["parts", "noun"] ["parts"] (defScope st__law_word) := ⟨rfl, rfl, rfl, by decide +kernel, rfl, by decide +kernel, by decide +kernel⟩
theorem g__law_word (h : Hd P w K mg) : GFn true P w K mg base 2 "_law_word" ["parts"] spLawWord := by
  refine gfn_mk (k := 1) h.d__law_word h.gd__law_word sc__law_word (fun kV doc pm an cdv ct us hl => match us, hl with | [_], _ => rfl) (fun vs H Q E q => by obtain ⟨p, u, d, s, cs, rfl, _⟩ := q; rfl) (fun cdv A outer s H vs Q E pn cz hsp => ⟨_, (pss_cons (z_if (zt_cmp zEq_ok (k_ix K rfl (z_v 0) pe_int) pe_str) (pss_one (ps_ret (z_call cz (g__law_line_word (K := K) h) (by omega) (pa_cons (k_ix K rfl (z_v 0) pe_int) (pa_cons (k_ix K rfl (z_v 0) pe_int) pa_nil))))) pss_nil) (pss_cons (z_set 1 pe_str sc__law_word.nd) (pss_cons (z_if (PW.pt (zt_and (zt_cmp zEq_ok (k_ix K rfl (z_v 0) pe_int) pe_int) (zt_and1 (zt_cmp zEq_ok (k_ix K rfl (z_v 0) pe_int) pe_int)))) (pss_one (z_set 1 pe_str sc__law_word.nd)) pss_nil) (pss_cons (z_if (PW.pt (zt_and (zt_cmp zGt_ok (k_ix K rfl (z_v 0) pe_int) pe_int) (zt_and1 (zt_cmp zEq_ok (k_ix K rfl (z_v 0) pe_int) pe_int)))) (pss_one (z_set 1 pe_str sc__law_word.nd)) pss_nil) (pss_cons (z_if (PW.pt (zt_and (zt_cmp zEq_ok (k_ix K rfl (z_v 0) pe_int) pe_int) (zt_and1 (zt_cmp zGt_ok (k_ix K rfl (z_v 0) pe_int) pe_int)))) (pss_one (z_set 1 pe_str sc__law_word.nd)) pss_nil) (pss_one (ps_ret (z_bin zAdd_ok (z_bin zAdd_ok (k_ix K rfl (z_v 0) pe_int) pe_str) (z_v 1))))))))), ?_⟩)
  obtain ⟨p, u, d, s, cs, rfl, okk, hm, hO, hQ⟩ := hsp
  have sl : s.length ≤ 10 := by
    rcases okk.2.2 with ⟨_, rfl⟩ | ⟨_, rfl | rfl⟩ <;> decide
  unfold wordW at hQ
  walk_at "z"
  refine ⟨fun hc => ?_, fun hc => ?_⟩
  · have hs := of_decide_eq_true hc
    simp only [if_pos hs] at hQ
    walk_at "z"
    refine ⟨⟨u, d, cs, rfl, okk.1.1, okk.2.1.1, hO, ?_, hQ⟩⟩
    rcases okk.2.2 with ⟨z, _⟩ | ⟨_, z | z⟩
    · exact z
    · rw [hs] at z
      exact absurd z (by decide)
    · rw [hs] at z
      exact absurd z (by decide)
  have hs : ¬ s = "line" := fun z => hc (decide_eq_true z)
  simp only [if_neg hs] at hQ
  have pos : 1 ≤ u ∧ 1 ≤ d := by
    rcases okk.2.2 with ⟨_, z⟩ | ⟨⟨z1, z2⟩, _⟩
    · exact (hs z).elim
    · have := okk.1.1
      have := okk.2.1.1
      omega
  have e1 : s ++ (" " : Str) ++ ("sibling" : Str) = s ++ " sibling" := by
    rcases okk.2.2 with ⟨_, rfl⟩ | ⟨_, rfl | rfl⟩ <;> decide
  have e2 : s ++ (" " : Str) ++ ("uncle" : Str) = s ++ " uncle" := by
    rcases okk.2.2 with ⟨_, rfl⟩ | ⟨_, rfl | rfl⟩ <;> decide
  have e3 : s ++ (" " : Str) ++ ("nephew" : Str) = s ++ " nephew" := by
    rcases okk.2.2 with ⟨_, rfl⟩ | ⟨_, rfl | rfl⟩ <;> decide
  have e4 : s ++ (" " : Str) ++ ("cousin" : Str) = s ++ " cousin" := by
    rcases okk.2.2 with ⟨_, rfl⟩ | ⟨_, rfl | rfl⟩ <;> decide
  have l1 : ("sibling" : Str).length = 7 := by decide
  have l2 : ("uncle" : Str).length = 5 := by decide
  have l3 : ("nephew" : Str).length = 6 := by decide
  have l4 : ("cousin" : Str).length = 6 := by decide
  have l5 : (" " : Str).length = 1 := by decide
  by_cases hu : u = 1
  · by_cases hd : d = 1
    · simp only [hu, hd, and_self, if_true] at hQ
      walk_at "zo"
      rw [e1]
      exact hQ _ hO
    · simp only [hu, hd, and_false, if_false, if_true] at hQ
      walk_at "zo"
      rw [e3]
      exact hQ _ hO
  · by_cases hd : d = 1
    · simp only [hu, hd, false_and, if_false, if_true] at hQ
      walk_at "zo"
      rw [e2]
      exact hQ _ hO
    · simp only [hu, hd, false_and, if_false] at hQ
      walk_at "zo"
      rw [e4]
      exact hQ _ hO
theorem sc_Kin_word : FnScope ["self"] ["self"] (defScope st_Kin_word) := ⟨rfl, rfl, rfl, by decide +kernel, rfl, by decide +kernel, by decide +kernel⟩
theorem g_Kin_word (h : Hd P w K mg) : MFn P w K mg base 2 (prA K "Kin" "word" 0) ["self"] (spWord K) := by
  refine mfn_mk (k := 1) h.d_Kin_word sc_Kin_word (fun kV doc pm an cdv ct us hl => match us, hl with | [_], _ => rfl) (fun vs H Q E q => by obtain ⟨a, u, d, s, cs, rfl, _⟩ := q; rfl) (fun cdv A outer s H vs Q E pn cz hsp => ⟨_, (pss_cons (z_if (zt_cmp zEq_ok (z_fld K rfl (z_v 0)) pe_str) (pss_one (ps_ret (z_call cz (g_line_word (K := K) h) (by omega) (pa_cons (z_fld K rfl (z_v 0)) (pa_cons (z_fld K rfl (z_v 0)) pa_nil))))) pss_nil) (pss_cons (z_if (PW.pt (zt_and (zt_cmp zEq_ok (z_fld K rfl (z_v 0)) pe_int) (zt_and1 (zt_cmp zEq_ok (z_fld K rfl (z_v 0)) pe_int)))) (pss_one (ps_ret (z_bin zAdd_ok (z_fld K rfl (z_v 0)) pe_str))) pss_nil) (pss_cons (z_if (zt_cmp zEq_ok (z_fld K rfl (z_v 0)) pe_int) (pss_one (ps_ret (z_bin zAdd_ok (z_fld K rfl (z_v 0)) pe_str))) pss_nil) (pss_cons (z_if (zt_cmp zEq_ok (z_fld K rfl (z_v 0)) pe_int) (pss_one (ps_ret (z_bin zAdd_ok (z_fld K rfl (z_v 0)) pe_str))) pss_nil) (pss_one (ps_ret (z_bin zAdd_ok (z_fld K rfl (z_v 0)) pe_str))))))), ?_⟩)
  have cl_Kin := h.cl_Kin
  have ow_Kin := h.ow_Kin
  have na_Kin_up := h.na_Kin_up
  have na_Kin_down := h.na_Kin_down
  have na_Kin_side := h.na_Kin_side
  have na_Kin_far := h.na_Kin_far
  have na_Kin_rank := h.na_Kin_rank
  have t_SIDES := h.t_SIDES
  obtain ⟨u_Kin_MOST, cn_Kin_MOST⟩ := h.cn_Kin_MOST
  obtain ⟨a, u, d, s, cs, rfl, hm, hO, hQ⟩ := hsp
  have okk := KinC.ok hO hm
  have sl : s.length ≤ 10 := by
    rcases okk.2.2 with ⟨_, rfl⟩ | ⟨_, rfl | rfl⟩ <;> decide
  have t1 : (" sibling" : Str).length = 8 := by decide
  have t2 : (" uncle" : Str).length = 6 := by decide
  have t3 : (" nephew" : Str).length = 7 := by decide
  have t4 : (" cousin" : Str).length = 7 := by decide
  unfold wordW at hQ
  walk_at "z"
  refine ⟨fun hc => ?_, fun hc => ?_⟩
  · rw [if_pos (of_decide_eq_true hc)] at hQ
    walk_at "z"
    exact ⟨⟨u, d, rfl, hQ⟩⟩
  rw [if_neg (fun z => hc (decide_eq_true z))] at hQ
  dsimp only [tNext]
  refine zcut (fun σ H' => H' = H ∧ σ = [some (.ref a)] ∧ ¬ (u = 1 ∧ d = 1)) ?_ fun U hU => ?_
  · intro σ H' hh
    obtain ⟨eH, eS, hn⟩ := hh
    rw [eH, eS]
    rw [if_neg hn] at hQ
    walk_at "z"
    refine ⟨fun hc => ?_, fun hc => ?_⟩
    · rw [if_pos (of_decide_eq_true hc)] at hQ
      walk_at "z"
      exact hQ
    rw [if_neg (fun z => hc (decide_eq_true z))] at hQ
    walk_at "z"
    refine ⟨fun hc => ?_, fun hc => ?_⟩
    · rw [if_pos (of_decide_eq_true hc)] at hQ
      walk_at "z"
      exact hQ
    rw [if_neg (fun z => hc (decide_eq_true z))] at hQ
    walk_at "z"
    exact hQ
  walk_at "z"
  refine ⟨fun hc => ?_, fun hc => ?_⟩
  · walk_at "z"
    refine ⟨fun hc2 => ?_, fun hc2 => ?_⟩
    · rw [if_pos ⟨of_decide_eq_true hc, of_decide_eq_true hc2⟩] at hQ
      walk_at "z"
      exact hQ
    · walk_at "z"
      exact hU _ _ ⟨rfl, rfl, fun z => hc2 (decide_eq_true z.2)⟩
  · walk_at "z"
    exact hU _ _ ⟨rfl, rfl, fun z => hc (decide_eq_true z.1)⟩
theorem sc__law_named : FnScope ["kin", "parts"] ["kin", "parts"] (defScope st__law_named) := ⟨rfl, rfl, rfl, by decide +kernel, rfl, by decide +kernel, by decide +kernel⟩
theorem g__law_named (h : Hd P w K mg) : GFn true P w K mg base 5 "_law_named" ["kin", "parts"] (spNamed K) := by
  refine gfn_mk (k := 4) h.d__law_named h.gd__law_named sc__law_named (fun kV doc pm an cdv ct us hl => match us, hl with | [_, _], _ => rfl) (fun vs H Q E q => by obtain ⟨a, p, u, d, s, cs, rfl, _⟩ := q; rfl) (fun cdv A outer s H vs Q E pn cz hsp => ⟨_, (pss_one (ps_ret (z_and (z_call cz (g__law_same (K := K) h 0) (by omega) (pa_cons (z_prp cz h.cl_Kin h.pr_Kin_word (g_Kin_word (K := K) h) (by omega) (z_v 0)) (pa_cons (z_call cz (g__law_word (K := K) h) (by omega) (pa_cons (z_v 1) pa_nil)) pa_nil))) (pe_one (z_call cz (g__law_is_kin (K := K) h) (by omega) (pa_cons (z_v 0) (pa_cons (z_v 1) pa_nil))))))), ?_⟩)
  have cl_Kin := h.cl_Kin
  have ow_Kin := h.ow_Kin
  have na_Kin_up := h.na_Kin_up
  have na_Kin_down := h.na_Kin_down
  have na_Kin_side := h.na_Kin_side
  have na_Kin_far := h.na_Kin_far
  have na_Kin_rank := h.na_Kin_rank
  have t_SIDES := h.t_SIDES
  obtain ⟨u_Kin_MOST, cn_Kin_MOST⟩ := h.cn_Kin_MOST
  obtain ⟨a, p, u, d, s, cs, rfl, hk, hm, hO, hQ⟩ := hsp
  have okk := KinC.ok hO hk
  walk_at "z"
  refine ⟨⟨a, u, d, s, cs, rfl, hk, hO, ?_⟩⟩
  walk_at "z"
  refine ⟨⟨p, u, d, s, cs, rfl, okk, hm, hO, fun H1 o => ?_⟩⟩
  walk_at "z"
  refine ⟨⟨_, _, true, rfl, .inr ⟨rfl, True.intro, rfl⟩, ?_⟩⟩
  walk_at "z"
  exact ⟨⟨a, p, u, d, s, cs, rfl, hk, hm, o, hQ⟩⟩
theorem sc_Kin___neg__ : FnScope ["self"] ["self"] (defScope st_Kin___neg__) := ⟨rfl, rfl, rfl, by decide +kernel, rfl, by decide +kernel, by decide +kernel⟩
theorem g_Kin___neg__ (h : Hd P w K mg) : MFn P w K mg base 5 (He.ma K (He.ga K "Kin") "__neg__") ["self"] (spNeg K) := by
  refine mfn_mk (k := 4) h.d_Kin___neg__ sc_Kin___neg__ (fun kV doc pm an cdv ct us hl => match us, hl with | [_], _ => rfl) (fun vs H Q E q => by obtain ⟨a, u, d, s, cs, rfl, _⟩ := q; rfl) (fun cdv A outer s H vs Q E pn cz hsp => ⟨_, (pss_one (ps_ret (z_make cz h.mk_Kin (g_Kin___init__ (K := K) h) (by omega) h.g_Kin (pa_cons (z_fld K rfl (z_v 0)) (pa_cons (z_fld K rfl (z_v 0)) (pa_cons (k_kd K rfl h.kd_OPPOSITE (pe_glob (v := .ref (He.ga K "OPPOSITE")) rfl h.g_OPPOSITE rfl) (z_fld K rfl (z_v 0))) pa_nil)))))), ?_⟩)
  have cl_Kin := h.cl_Kin
  have ow_Kin := h.ow_Kin
  have na_Kin_up := h.na_Kin_up
  have na_Kin_down := h.na_Kin_down
  have na_Kin_side := h.na_Kin_side
  have na_Kin_far := h.na_Kin_far
  have na_Kin_rank := h.na_Kin_rank
  have t_SIDES := h.t_SIDES
  obtain ⟨u_Kin_MOST, cn_Kin_MOST⟩ := h.cn_Kin_MOST
  obtain ⟨a, u, d, s, cs, rfl, hm, hO, hQ⟩ := hsp
  have okk := KinC.ok hO hm
  have kv : ∃ u0, PySem.W.nsIn K (He.ga K "OPPOSITE") s = some (some u0) ∧ RelV (.str (othS s)) u0 := by
    rcases okk.2.2 with ⟨_, rfl⟩ | ⟨_, rfl | rfl⟩
    · exact h.kv_OPPOSITE ("line", .str "line") (.head _)
    · exact h.kv_OPPOSITE ("elder", .str "younger") (.tail _ (.head _))
    · exact h.kv_OPPOSITE ("younger", .str "elder") (.tail _ (.tail _ (.head _)))
  obtain ⟨u0, k1, k2⟩ := kv
  walk_at "z"
  refine ⟨⟨rfl, u0, _, k1, k2, ?_⟩⟩
  walk_at "z"
  refine ⟨⟨_, _, d, u, othS s, cs, rfl, by assumption, fun ok H' o => ⟨rfl, hQ _ _ o⟩, fun n => (n (oth_ok okk)).elim⟩⟩
theorem sc_law : FnScope ["script", "state", "up", "down", "counts", "small", "kins", "rows", "pair", "side", "k", "other"] ["script"] (defScope st_law) := ⟨rfl, rfl, rfl, by decide +kernel, rfl, by decide +kernel, by decide +kernel⟩
theorem g_law (h : Hd P w K mg) {f : Addr} {fd : FuncData} (F : FunD K "law" "law" (defArgs st_law) (defBody st_law) (defScope st_law) [] [] f fd) : Fn true P w K mg base 7 f fd ["script"] (spLaw K) := by
  refine fn_mk (k := 6) F sc_law (fun vs H Q E q => by obtain ⟨a, ns, rfl, _⟩ := q; rfl) (fun cdv A outer s H vs Q E pn cz hsp => ⟨_, (pss_cons (z_set 1 (z_call cz (g__law_start (K := K) h) (by omega) (pa_cons (z_v 0) pa_nil)) sc_law.nd) (pss_cons (z_set 2 (z_call cz (g__law_count (K := K) h) (by omega) (pa_cons (z_v 1) pa_nil)) sc_law.nd) (pss_cons (z_set 3 (z_call cz (g__law_count (K := K) h) (by omega) (pa_cons (z_v 1) pa_nil)) sc_law.nd) (pss_cons (z_set 4 (z_lst (pa_cons (z_tup (pa_cons (z_v 2) (pa_cons (z_v 3) pa_nil))) (pa_cons (z_tup (pa_cons pe_int (pa_cons pe_int pa_nil))) (pa_cons (z_tup (pa_cons pe_int (pa_cons pe_int pa_nil))) (pa_cons (z_tup (pa_cons pe_int (pa_cons pe_int pa_nil))) (pa_cons (z_tup (pa_cons pe_int (pa_cons pe_int pa_nil))) pa_nil)))))) sc_law.nd) (pss_cons (z_for cz (k_it K rfl (z_lst (pa_cons pe_int (pa_cons pe_int (pa_cons pe_int pa_nil))))) (zg_name 5 sc_law.nd) (pss_one (z_set 4 (z_bin zAdd_ok (z_v 4) (z_lst (pa_cons (z_tup (pa_cons (z_v 2) (pa_cons (z_v 5) pa_nil))) (pa_cons (z_tup (pa_cons (z_v 5) (pa_cons (z_v 2) pa_nil))) (pa_cons (z_tup (pa_cons (z_v 5) (pa_cons (z_v 3) pa_nil))) (pa_cons (z_tup (pa_cons (z_v 3) (pa_cons (z_v 5) pa_nil))) pa_nil)))))) sc_law.nd))) (pss_cons (z_set 6 (z_lst pa_nil) sc_law.nd) (pss_cons (z_set 7 (z_lst pa_nil) sc_law.nd) (pss_cons (z_for cz (k_it K rfl (z_v 4)) (zg_name 8 sc_law.nd) (pss_one (z_for cz (k_it K rfl (z_call cz (g__law_sides (K := K) h) (by omega) (pa_cons (k_ix K rfl (z_v 8) pe_int) (pa_cons (k_ix K rfl (z_v 8) pe_int) pa_nil)))) (zg_name 9 sc_law.nd) (pss_cons (ps_expr (k_meth K rfl PySem.F.plainAttrs_list PySem.F.slot_list_append PySem.F.type_list_append zAppend_ok (z_v 7) (pa_cons (z_tup (pa_cons (k_ix K rfl (z_v 8) pe_int) (pa_cons (k_ix K rfl (z_v 8) pe_int) (pa_cons (z_v 9) pa_nil)))) pa_nil))) (pss_one (ps_expr (k_meth K rfl PySem.F.plainAttrs_list PySem.F.slot_list_append PySem.F.type_list_append zAppend_ok (z_v 6) (pa_cons (z_call cz (g__law_kin (K := K) h) (by omega) (pa_cons (z_tup (pa_cons (k_ix K rfl (z_v 8) pe_int) (pa_cons (k_ix K rfl (z_v 8) pe_int) (pa_cons (z_v 9) pa_nil)))) pa_nil)) pa_nil)))))))) (pss_cons (z_forR cz h.fr_range (pa_cons (z_callB (k_len K rfl) h.fr_len (by decide +kernel) (pa_cons (z_v 7) pa_nil)) pa_nil) (zg_name 10 sc_law.nd) (pss_cons (z_set 11 (z_neg cz h.me_Kin___neg__ (g_Kin___neg__ (K := K) h) (by omega) (k_ix K rfl (z_v 6) (z_v 10))) sc_law.nd) (pss_one (z_if (PW.pt (zt_or (zt_not (k_t K rfl (z_call cz (g__law_named (K := K) h) (by omega) (pa_cons (k_ix K rfl (z_v 6) (z_v 10)) (pa_cons (k_ix K rfl (z_v 7) (z_v 10)) pa_nil))))) (zt_or1 (zt_not (k_t K rfl (z_call cz (g__law_named (K := K) h) (by omega) (pa_cons (z_v 11) (pa_cons (z_call cz (g__law_minus (K := K) h) (by omega) (pa_cons (k_ix K rfl (z_v 7) (z_v 10)) pa_nil)) pa_nil)))))))) (pss_one (ps_ret pe_bl)) pss_nil)))) (pss_cons (z_forR cz h.fr_range (pa_cons (z_callB (k_len K rfl) h.fr_len (by decide +kernel) (pa_cons (z_v 7) pa_nil)) pa_nil) (zg_name 10 sc_law.nd) (pss_one (z_if (zt_not (k_t K rfl (z_call cz (g__law_named (K := K) h) (by omega) (pa_cons (k_ix K rfl (z_v 6) (z_v 10)) (pa_cons (k_ix K rfl (z_v 7) (z_v 10)) pa_nil))))) (pss_one (ps_ret pe_bl)) pss_nil))) (pss_one (ps_ret pe_bl)))))))))))), ?_⟩)
  obtain ⟨a, ns, rfl, hS, hn, hQ⟩ := hsp
  walk_at "z"
  refine ⟨⟨a, ns, [], rfl, hS, hn, Own.nil, fun q H1 o => ?_⟩⟩
  walk_at "z"
  refine ⟨⟨q, [], rfl, o, fun up H2 h0 h1 o => ?_⟩⟩
  walk_at "z"
  refine ⟨⟨q, [], rfl, o, fun dn H2 h2 h3 o => ?_⟩⟩
  walk_at "z"
  rename_i p1 _ _ p2 _ _ p3 _ _ p4 _ _ p5 _ _ cl _ _ lx H3 o3
  refine zloop_l (xs := [.int 0, .int 1, .int 2]) (fun i σ H => ∃ (cl : Addr) (ts : List KCnt) (cs : List Chunk) (o5 : Option V), σ = [some (.ref a), some (.ref q), some (.int up), some (.int dn), some (.ref cl), o5, none, none, none, none, none, none] ∧ Own (pt lx (.lst [.int 0, .int 1, .int 2]) :: pt cl (.lst (ts.map fun t => .ref t.t)) :: cs) H ∧ (∀ t ∈ ts, t.here cs) ∧ ts.length ≤ 5 + 4 * i) ?_ ?_ ?_ ?_
  · refine ⟨cl, [⟨p1, up, dn⟩, ⟨p2, 1, 1⟩, ⟨p3, 2, 1⟩, ⟨p4, 1, 2⟩, ⟨p5, 2, 2⟩], _, none, rfl, o3, ?_, by simp⟩
    intro t ht
    simp only [List.mem_cons, List.not_mem_nil, or_false] at ht
    rcases ht with rfl | rfl | rfl | rfl | rfl
    · exact ⟨by walk_at "zm", ⟨h0, h1⟩, ⟨h2, h3⟩⟩
    · exact ⟨by walk_at "zm", by simp, by simp⟩
    · exact ⟨by walk_at "zm", by simp, by simp⟩
    · exact ⟨by walk_at "zm", by simp, by simp⟩
    · exact ⟨by walk_at "zm", by simp, by simp⟩
  · intro i σ H _ hh
    obtain ⟨cl, ts, cs, o5, eS, o, ht, hl⟩ := hh
    exact SqL.of (o.get (.head _))
  · intro i x σ H hx hh
    obtain ⟨cl, ts, cs, o5, eS, o, ht, hl⟩ := hh
    have hxi : ∃ n : Int, x = .int n ∧ 0 ≤ n ∧ n ≤ 2 ∧ i < 3 := by
      match i, hx with
      | 0, hx => exact ⟨0, (Option.some.inj hx).symm, by decide, by decide, by decide⟩
      | 1, hx => exact ⟨1, (Option.some.inj hx).symm, by decide, by decide, by decide⟩
      | 2, hx => exact ⟨2, (Option.some.inj hx).symm, by decide, by decide, by decide⟩
    obtain ⟨n, rfl, n0, n2, i3⟩ := hxi
    rw [eS]
    walk_at "z"
    rename_i q1 _ _ q2 _ _ q3 _ _ q4 _ _ lt _ _ lc H4 o4
    have em : (ts ++ [(⟨q1, up, n⟩ : KCnt), ⟨q2, n, up⟩, ⟨q3, n, dn⟩, ⟨q4, dn, n⟩]).map (fun t : KCnt => V.ref t.t) = ts.map (fun t => V.ref t.t) ++ [.ref q1, .ref q2, .ref q3, .ref q4] := List.map_append
    have o6 := o4.pull (.there (.there (.there (.there (.there (.there .here))))))
    rw [← em] at o6
    refine ⟨lc, ts ++ [⟨q1, up, n⟩, ⟨q2, n, up⟩, ⟨q3, n, dn⟩, ⟨q4, dn, n⟩], _, _, rfl, o6, ?_, ?_⟩
    · intro t hm
      rcases List.mem_append.mp hm with hm | hm
      · have z := ht t hm
        exact ⟨.tail _ (.tail _ (.tail _ (.tail _ (.tail _ (.tail _ z.1))))), z.2⟩
      · simp only [List.mem_cons, List.not_mem_nil, or_false] at hm
        rcases hm with rfl | rfl | rfl | rfl
        · exact ⟨by walk_at "zm", ⟨h0, h1⟩, ⟨n0, by show n ≤ 999; omega⟩⟩
        · exact ⟨by walk_at "zm", ⟨n0, by show n ≤ 999; omega⟩, ⟨h0, h1⟩⟩
        · exact ⟨by walk_at "zm", ⟨n0, by show n ≤ 999; omega⟩, ⟨h2, h3⟩⟩
        · exact ⟨by walk_at "zm", ⟨h2, h3⟩, ⟨n0, by show n ≤ 999; omega⟩⟩
    · simp only [List.length_append, List.length_cons, List.length_nil]
      omega
  · intro σ H hh
    obtain ⟨cl, ts, cs, o5, eS, o, ht, hl⟩ := hh
    rw [eS]
    have hl17 : ts.length ≤ 17 := hl
    clear hl
    walk_at "z"
    rename_i kl _ _ rl H4 o4
    have o4 := (o4.pull (.there (.there .here))).tail
    refine zloop_l (xs := ts.map fun t => .ref t.t) (fun i σ H => ∃ (rs : List KRow) (cs : List Chunk) (o8 o9 : Option V), σ = [some (.ref a), some (.ref q), some (.int up), some (.int dn), some (.ref cl), o5, some (.ref kl), some (.ref rl), o8, o9, none, none] ∧ Own (pt rl (.lst (rs.map fun r => .ref r.t)) :: pt kl (.lst (rs.map fun r => .ref r.k)) :: pt cl (.lst (ts.map fun t => .ref t.t)) :: cs) H ∧ (∀ t ∈ ts, t.here cs) ∧ (∀ r ∈ rs, r.here K cs) ∧ rs.length ≤ 2 * i) ?_ ?_ ?_ ?_
    · exact ⟨[], cs, none, none, rfl, o4, ht, (fun r hr => nomatch hr), by simp⟩
    · intro i σ H _ hh
      obtain ⟨rs, cs, o8, o9, eS, o, ht, hr, hl⟩ := hh
      exact SqL.of (o.get (.tail _ (.tail _ (.head _))))
    · intro i x σ H hx hh
      obtain ⟨rs, cs, o8, o9, eS, o, ht, hr, hl⟩ := hh
      rw [eS]
      have hi : i < 17 := by
        have := (List.getElem?_eq_some_iff.mp hx).1
        rw [List.length_map] at this
        omega
      rw [List.getElem?_map] at hx
      obtain ⟨t, et, rfl⟩ := Option.map_eq_some_iff.mp hx
      obtain ⟨tm, tu, td⟩ := ht t (List.mem_of_getElem? et)
      have tm1 : pt t.t (.tup [.int t.u, .int t.d]) ∈ (pt rl (.lst (rs.map fun r => .ref r.t)) :: pt kl (.lst (rs.map fun r => .ref r.k)) :: pt cl (.lst (ts.map fun t => .ref t.t)) :: cs) := .tail _ (.tail _ (.tail _ tm))
      walk_at "z"
      refine ⟨⟨_, _, _, rfl, o, fun sl H5 oS => ?_⟩⟩
      walk_at "z"
      refine zloop_l (xs := (sidesOf t.u t.d).map V.str) (fun j σ H => ∃ (rs : List KRow) (cs : List Chunk) (o9 : Option V), σ = [some (.ref a), some (.ref q), some (.int up), some (.int dn), some (.ref cl), o5, some (.ref kl), some (.ref rl), some (.ref t.t), o9, none, none] ∧ Own (pt sl (.lst ((sidesOf t.u t.d).map V.str)) :: pt rl (.lst (rs.map fun r => .ref r.t)) :: pt kl (.lst (rs.map fun r => .ref r.k)) :: pt cl (.lst (ts.map fun t => .ref t.t)) :: cs) H ∧ (∀ t ∈ ts, t.here cs) ∧ (∀ r ∈ rs, r.here K cs) ∧ rs.length ≤ 2 * i + j) ?_ ?_ ?_ ?_
      · exact ⟨rs, cs, _, rfl, oS, ht, hr, hl⟩
      · intro i σ H _ hh
        obtain ⟨rs, cs, o9, eS, o, ht, hr, hl⟩ := hh
        exact SqL.of (o.get (.head _))
      · intro j x σ H hx hh
        obtain ⟨rs, cs, o9, eS, o, ht, hr, hl⟩ := hh
        rw [eS]
        have hj : j < 2 := by
          have z := (List.getElem?_eq_some_iff.mp hx).1
          rw [List.length_map] at z
          unfold sidesOf at z
          split at z
          · exact Nat.lt_succ_of_lt z
          · exact z
        rw [List.getElem?_map] at hx
        obtain ⟨s, es, rfl⟩ := Option.map_eq_some_iff.mp hx
        have okk : okKin t.u t.d s := ⟨tu, td, sides_ok (List.mem_of_getElem? es)⟩
        obtain ⟨tm, _, _⟩ := ht t (List.mem_of_getElem? et)
        have tm1 : pt t.t (.tup [.int t.u, .int t.d]) ∈ (pt sl (.lst ((sidesOf t.u t.d).map V.str)) :: pt rl (.lst (rs.map fun r => .ref r.t)) :: pt kl (.lst (rs.map fun r => .ref r.k)) :: pt cl (.lst (ts.map fun t => .ref t.t)) :: cs) := .tail _ (.tail _ (.tail _ (.tail _ tm)))
        walk_at "z"
        rename_i tp H6 oT
        refine zset oT (.there (.there .here)) fun H7 oU => ?_
        walk_at "z"
        rename_i tq H8 oV
        refine ⟨⟨tq, t.u, t.d, s, _, rfl, .head _, oV, fun _ ka H9 oW => ?_, fun n => (n okk).elim⟩⟩
        walk_at "z"
        refine zset oW (.there (.there (.there (.there (.there .here))))) fun H10 oX => ?_
        walk_at "z"
        have e1 : (rs ++ [(⟨tp, ka, t.u, t.d, s⟩ : KRow)]).map (fun r => V.ref r.t) = rs.map (fun r => V.ref r.t) ++ [.ref tp] := List.map_append
        have e2 : (rs ++ [(⟨tp, ka, t.u, t.d, s⟩ : KRow)]).map (fun r => V.ref r.k) = rs.map (fun r => V.ref r.k) ++ [.ref ka] := List.map_append
        have oY : Own (pt sl (.lst ((sidesOf t.u t.d).map V.str)) :: pt rl (.lst (rs.map (fun r => V.ref r.t) ++ [.ref tp])) :: pt kl (.lst (rs.map (fun r => V.ref r.k) ++ [.ref ka])) :: pt cl (.lst (ts.map fun t => .ref t.t)) :: (KinC K ka t.u t.d s :: pt tq (.tup [.int t.u, .int t.d, .str s]) :: pt tp (.tup [.int t.u, .int t.d, .str s]) :: cs)) H10 := oX.pulls (.cons (.there (.there (.there .here))) (.cons (.there (.there (.there .here))) (.cons (.there (.there (.there .here))) (.cons (.there (.there (.there .here))) .nil))))
        rw [← e1, ← e2] at oY
        refine ⟨rs ++ [(⟨tp, ka, t.u, t.d, s⟩ : KRow)], _, _, rfl, oY, (fun t h => (((ht t h).cons _).cons _).cons _), (fun r h => ?_), ?_⟩
        · rcases List.mem_append.mp h with h | h
          · exact (((hr r h).cons _).cons _).cons _
          · rw [List.mem_singleton.mp h]
            exact ⟨.head _, .tail _ (.tail _ (.head _))⟩
        · rw [List.length_append, List.length_singleton]
          omega
      · intro σ H hh
        obtain ⟨rs, cs, o9, eS, o, ht, hr, hl⟩ := hh
        rw [eS]
        walk_at "z"
        have hs : ((sidesOf t.u t.d).map V.str).length ≤ 2 := by
          rw [List.length_map]
          unfold sidesOf
          split <;> simp
        exact ⟨rs, _, _, _, rfl, o.pull (.there (.there (.there .here))) |>.pull (.there (.there (.there .here))) |>.pull (.there (.there (.there .here))), (fun t h => (ht t h).cons _), (fun r h => (hr r h).cons _), by omega⟩
    · intro σ H hh
      obtain ⟨rs, cs, o8, o9, eS, o, ht, hr, hl⟩ := hh
      rw [eS]
      have hr34 : rs.length ≤ 34 := by
        rw [List.length_map] at hl
        omega
      have hrl : (rs.map fun r => V.ref r.t).length = rs.length := List.length_map _
      clear hl
      walk_at "z"
      refine zloop_r (fun i σ H => ∃ (cs : List Chunk) (o10 o11 : Option V), σ = [some (.ref a), some (.ref q), some (.int up), some (.int dn), some (.ref cl), o5, some (.ref kl), some (.ref rl), o8, o9, o10, o11] ∧ Own (pt rl (.lst (rs.map fun r => .ref r.t)) :: pt kl (.lst (rs.map fun r => .ref r.k)) :: pt cl (.lst (ts.map fun t => .ref t.t)) :: cs) H ∧ (∀ r ∈ rs, r.here K cs)) ⟨cs, none, none, rfl, o, hr⟩ ?_ ?_
      · intro i σ H hi hh
        obtain ⟨cs, o10, o11, eS, o, hr⟩ := hh
        rw [eS]
        have hi2 : i < rs.length := by omega
        have er : rs[i]? = some rs[i] := List.getElem?_eq_getElem hi2
        obtain ⟨k1, k2⟩ := hr rs[i] (List.getElem_mem hi2)
        generalize rs[i] = r at er k1 k2
        have g1 : atI (rs.map fun r => V.ref r.k) (0 + (i : Int)) = some (.ref r.k) := atI_0 (by rw [List.getElem?_map, er]; rfl)
        have g2 : atI (rs.map fun r => V.ref r.t) (0 + (i : Int)) = some (.ref r.t) := atI_0 (by rw [List.getElem?_map, er]; rfl)
        have m1 : KinC K r.k r.u r.d r.s ∈ (pt rl (.lst (rs.map fun r => .ref r.t)) :: pt kl (.lst (rs.map fun r => .ref r.k)) :: pt cl (.lst (ts.map fun t => .ref t.t)) :: cs) := .tail _ (.tail _ (.tail _ k1))
        have m2 : pt r.t (.tup [.int r.u, .int r.d, .str r.s]) ∈ (pt rl (.lst (rs.map fun r => .ref r.t)) :: pt kl (.lst (rs.map fun r => .ref r.k)) :: pt cl (.lst (ts.map fun t => .ref t.t)) :: cs) := .tail _ (.tail _ (.tail _ k2))
        walk_at "z"
        refine ⟨⟨_, g1, ?_⟩⟩
        walk_at "z"
        refine ⟨⟨r.k, r.u, r.d, r.s, _, rfl, m1, o, fun b H5 o => ?_⟩⟩
        walk_at "z"
        refine ⟨⟨_, g1, ?_⟩⟩
        walk_at "z"
        refine ⟨⟨_, g2, ?_⟩⟩
        walk_at "z"
        refine ⟨⟨r.k, r.t, r.u, r.d, r.s, _, rfl, .tail _ m1, .tail _ m2, o, fun H6 o => ?_⟩⟩
        walk_at "z"
        refine ⟨⟨_, g2, ?_⟩⟩
        walk_at "z"
        refine ⟨⟨r.t, r.u, r.d, r.s, _, rfl, .tail _ m2, o, fun mt H7 o => ?_⟩⟩
        walk_at "z"
        refine ⟨⟨b, mt, r.d, r.u, othS r.s, _, rfl, .tail _ (.head _), .head _, o, fun H8 o => ?_⟩⟩
        walk_at "z"
        have o := o.tail.tail
        exact ⟨cs, _, _, rfl, o, hr⟩
      · intro σ H hh
        obtain ⟨cs, o10, o11, eS, o, hr⟩ := hh
        rw [eS]
        walk_at "z"
        refine zloop_r (fun i σ H => ∃ (o10 : Option V), σ = [some (.ref a), some (.ref q), some (.int up), some (.int dn), some (.ref cl), o5, some (.ref kl), some (.ref rl), o8, o9, o10, o11] ∧ Own (pt rl (.lst (rs.map fun r => .ref r.t)) :: pt kl (.lst (rs.map fun r => .ref r.k)) :: pt cl (.lst (ts.map fun t => .ref t.t)) :: cs) H) ⟨o10, rfl, o⟩ ?_ ?_
        · intro i σ H hi hh
          obtain ⟨o10, eS, o⟩ := hh
          rw [eS]
          have hi2 : i < rs.length := by omega
          have er : rs[i]? = some rs[i] := List.getElem?_eq_getElem hi2
          obtain ⟨k1, k2⟩ := hr rs[i] (List.getElem_mem hi2)
          generalize rs[i] = r at er k1 k2
          have g1 : atI (rs.map fun r => V.ref r.k) (0 + (i : Int)) = some (.ref r.k) := atI_0 (by rw [List.getElem?_map, er]; rfl)
          have g2 : atI (rs.map fun r => V.ref r.t) (0 + (i : Int)) = some (.ref r.t) := atI_0 (by rw [List.getElem?_map, er]; rfl)
          walk_at "z"
          refine ⟨⟨_, g1, ?_⟩⟩
          walk_at "z"
          refine ⟨⟨_, g2, ?_⟩⟩
          walk_at "z"
          refine ⟨⟨r.k, r.t, r.u, r.d, r.s, _, rfl, .tail _ (.tail _ (.tail _ k1)), .tail _ (.tail _ (.tail _ k2)), o, fun H6 o => ?_⟩⟩
          walk_at "z"
          exact ⟨_, rfl, o⟩
        · intro σ H hh
          obtain ⟨o10, eS, o⟩ := hh
          rw [eS]
          walk_at "z"
          exact hQ _
end
def fa : List He.Fa := [.free "bool", .free "int", .free "isinstance", .free "len", .free "list", .free "min", .free "range", .free "str", .free "super", .free "tuple", .str "DIGITS" "0123456789", .int "MOST_DIGITS" 3, .glo "SIDES", .glo "OPPOSITE", .glo "ForkError", .glo "BadKin", .glo "BadReach", .glo "BadText", .glo "Kin", .cls "Kin", .mkr "Kin", .noat "Kin" "up", .noat "Kin" "down", .noat "Kin" "side", .noat "Kin" "far", .noat "Kin" "rank", .meth "Kin" "__init__", .meth "Kin" "__neg__", .glo "read_number", .glo "fits_side", .glo "line_word", .glo "_law_start", .glo "_law_draw", .glo "_law_is_number", .glo "_law_same", .glo "_law_sides", .glo "_law_other_side", .glo "_law_minus", .glo "_law_kin", .glo "_law_is_kin", .glo "_law_count", .glo "_law_line_word", .glo "_law_word", .glo "_law_named", .glo "law"]
def fn : List He.DefD := [d_read_number, d_fits_side, d_line_word, d__law_start, d__law_draw, d__law_is_number, d__law_same, d__law_sides, d__law_other_side, d__law_minus, d__law_kin, d__law_is_kin, d__law_count, d__law_line_word, d__law_word, d__law_named, d_law, d_Kin___init__, d_Kin___neg__]
def su : List SupD := [u_ForkError, u_BadKin, u_BadReach, u_BadText]
def ts : List He.Tab := [(fun K => He.ga K "OPPOSITE", ["line", "elder", "younger"])]
def gd : List GetD := [d_Kin_word]
def ex : List (PySem.W.Frag → Bool) := [fun K => ktB K "SIDES" [.str "line", .str "elder", .str "younger"], fun K => He.valsB K (He.ga K "OPPOSITE") [("line", .str "line"), ("elder", .str "younger"), ("younger", .str "elder")], fun K => ownB K (He.ga K "Kin"), fun K => propB K "Kin" "word", fun K => He.conB K "Kin" "MOST" (.int 999), fun K => kidB K "BadKin" "ForkError" ["reason", "up", "down", "side"], fun K => kidB K "BadReach" "ForkError" ["reason", "number"], fun K => kidB K "BadText" "ForkError" ["reason", "line"]]
theorem hd_of {w : World} {K : PySem.W.Frag} {h : Heap} {mg : Str → Option Value} (X : K.In h) (G : h.Ns mainGlobals mg) (c : SaysZ PySem.Challenge.pw_forkwaits_k04_words_of_kins fa fn ts su gd ex w K) : Hd PySem.Challenge.pw_forkwaits_k04_words_of_kins w K mg :=
  ⟨by kernel_rfl, He.free_ok X G (c.d.fact 0 (f := .free "bool") rfl), He.free_ok X G (c.d.fact 1 (f := .free "int") rfl), He.free_ok X G (c.d.fact 2 (f := .free "isinstance") rfl), He.free_ok X G (c.d.fact 3 (f := .free "len") rfl), He.free_ok X G (c.d.fact 4 (f := .free "list") rfl), He.free_ok X G (c.d.fact 5 (f := .free "min") rfl), He.free_ok X G (c.d.fact 6 (f := .free "range") rfl), He.free_ok X G (c.d.fact 7 (f := .free "str") rfl), He.free_ok X G (c.d.fact 8 (f := .free "super") rfl), He.free_ok X G (c.d.fact 9 (f := .free "tuple") rfl), He.str_ok X G (c.d.fact 10 (f := .str "DIGITS" "0123456789") rfl), He.int_ok X G (c.d.fact 11 (f := .int "MOST_DIGITS" 3) rfl), He.glo_ok X G (c.d.fact 12 (f := .glo "SIDES") rfl), ktB_ok (vs := [.str "line", .str "elder", .str "younger"]) (c.e 0 (b := fun K => ktB K "SIDES" [.str "line", .str "elder", .str "younger"]) rfl), He.glo_ok X G (c.d.fact 13 (f := .glo "OPPOSITE") rfl), c.t.tab 0 (t := (fun K => He.ga K "OPPOSITE", ["line", "elder", "younger"])) rfl, fun q hq => He.valsB_ok (kvs := [("line", .str "line"), ("elder", .str "younger"), ("younger", .str "elder")]) (c.e 1 (b := fun K => He.valsB K (He.ga K "OPPOSITE") [("line", .str "line"), ("elder", .str "younger"), ("younger", .str "elder")]) rfl) hq, He.glo_ok X G (c.d.fact 14 (f := .glo "ForkError") rfl), He.glo_ok X G (c.d.fact 15 (f := .glo "BadKin") rfl), He.glo_ok X G (c.d.fact 16 (f := .glo "BadReach") rfl), He.glo_ok X G (c.d.fact 17 (f := .glo "BadText") rfl), He.glo_ok X G (c.d.fact 18 (f := .glo "Kin") rfl), He.cls_ok (c.d.fact 19 (f := .cls "Kin") rfl), ownB_ok (c.e 2 (b := fun K => ownB K (He.ga K "Kin")) rfl), He.mkr_ok (c.d.fact 20 (f := .mkr "Kin") rfl), He.noat_ok (c.d.fact 21 (f := .noat "Kin" "up") rfl), He.noat_ok (c.d.fact 22 (f := .noat "Kin" "down") rfl), He.noat_ok (c.d.fact 23 (f := .noat "Kin" "side") rfl), He.noat_ok (c.d.fact 24 (f := .noat "Kin" "far") rfl), He.noat_ok (c.d.fact 25 (f := .noat "Kin" "rank") rfl), He.meth_ok (c.d.fact 26 (f := .meth "Kin" "__init__") rfl), He.meth_ok (c.d.fact 27 (f := .meth "Kin" "__neg__") rfl), propB_ok (c.e 3 (b := fun K => propB K "Kin" "word") rfl), He.conB_ok (c.e 4 (b := fun K => He.conB K "Kin" "MOST" (.int 999)) rfl), He.glo_ok X G (c.d.fact 28 (f := .glo "read_number") rfl), c.d.def_ 0 (d := d_read_number) rfl, He.glo_ok X G (c.d.fact 29 (f := .glo "fits_side") rfl), c.d.def_ 1 (d := d_fits_side) rfl, He.glo_ok X G (c.d.fact 30 (f := .glo "line_word") rfl), c.d.def_ 2 (d := d_line_word) rfl, He.glo_ok X G (c.d.fact 31 (f := .glo "_law_start") rfl), c.d.def_ 3 (d := d__law_start) rfl, He.glo_ok X G (c.d.fact 32 (f := .glo "_law_draw") rfl), c.d.def_ 4 (d := d__law_draw) rfl, He.glo_ok X G (c.d.fact 33 (f := .glo "_law_is_number") rfl), c.d.def_ 5 (d := d__law_is_number) rfl, He.glo_ok X G (c.d.fact 34 (f := .glo "_law_same") rfl), c.d.def_ 6 (d := d__law_same) rfl, He.glo_ok X G (c.d.fact 35 (f := .glo "_law_sides") rfl), c.d.def_ 7 (d := d__law_sides) rfl, He.glo_ok X G (c.d.fact 36 (f := .glo "_law_other_side") rfl), c.d.def_ 8 (d := d__law_other_side) rfl, He.glo_ok X G (c.d.fact 37 (f := .glo "_law_minus") rfl), c.d.def_ 9 (d := d__law_minus) rfl, He.glo_ok X G (c.d.fact 38 (f := .glo "_law_kin") rfl), c.d.def_ 10 (d := d__law_kin) rfl, He.glo_ok X G (c.d.fact 39 (f := .glo "_law_is_kin") rfl), c.d.def_ 11 (d := d__law_is_kin) rfl, He.glo_ok X G (c.d.fact 40 (f := .glo "_law_count") rfl), c.d.def_ 12 (d := d__law_count) rfl, He.glo_ok X G (c.d.fact 41 (f := .glo "_law_line_word") rfl), c.d.def_ 13 (d := d__law_line_word) rfl, He.glo_ok X G (c.d.fact 42 (f := .glo "_law_word") rfl), c.d.def_ 14 (d := d__law_word) rfl, He.glo_ok X G (c.d.fact 43 (f := .glo "_law_named") rfl), c.d.def_ 15 (d := d__law_named) rfl, He.glo_ok X G (c.d.fact 44 (f := .glo "law") rfl), c.d.def_ 16 (d := d_law) rfl, c.d.def_ 17 (d := d_Kin___init__) rfl, c.d.def_ 18 (d := d_Kin___neg__) rfl, c.g 0 (d := d_Kin_word) rfl, c.s 0 (d := u_ForkError) rfl, c.s 1 (d := u_BadKin) rfl, c.s 2 (d := u_BadReach) rfl, c.s 3 (d := u_BadText) rfl, kidB_ok (c.e 5 (b := fun K => kidB K "BadKin" "ForkError" ["reason", "up", "down", "side"]) rfl), kidB_ok (c.e 6 (b := fun K => kidB K "BadReach" "ForkError" ["reason", "number"]) rfl), kidB_ok (c.e 7 (b := fun K => kidB K "BadText" "ForkError" ["reason", "line"]) rfl)⟩
def loose0 : List PySem.Str := ["_wall", "__name__", "ForkError", "BadKin", "BadReach", "BadText", "DIGITS", "MOST_DIGITS", "read_number", "SIDES", "OPPOSITE", "capped", "fits_side", "Kin", "line_word", "open_kins", "_law_start", "_law_draw", "_law_is_number", "_law_same", "_law_sides", "_law_other_side", "_law_minus", "_law_kin", "_law_is_kin", "_law_count", "_law_line_word", "_law_word", "_law_named"]
def loose : List PySem.Str := loose0
abbrev R : PySem.W.OpenRow := PySem.W.OpenLaw.row PySem.Challenge.rw_forkwaits_k04_words_of_kins
abbrev hk : PySem.W.Hook := hookZ PySem.Challenge.pw_forkwaits_k04_words_of_kins 6 fa fn ts su gd ex
def ob (s : PySem.W.SharedT) : AlZ := obsZG PySem.Challenge.pw_forkwaits_k04_words_of_kins 6 fa fn ts su gd ex (HandSHeadRun.getT s)
theorem ob_eq (s : PySem.W.SharedT) : ob s = hk.obs s.abs := obsZG_eq (HandSHeadRun.getT_eq s)
theorem run (w : World) : HandSHeadRun.RunEq R (PySem.W.view R.prog [32]) hk ob 30000 loose w := by
  refine PySem.W.byRow2 "special-get-raises" (P := fun w => HandSHeadRun.RunEq R (PySem.W.view R.prog [32]) hk ob 30000 loose w) (fun w => ?_) (fun w => ?_) w
  · intro os
    kernel_rfl
  · intro os
    kernel_rfl
theorem facts {w : World} {K : PySem.W.Frag} {h : Heap} {mg : Str → Option Value} {f : Addr} (X : K.In h) (G : h.Ns mainGlobals mg) (hfa : mg ("law" : Str) = some (.ref f)) (c : SaysZ PySem.Challenge.pw_forkwaits_k04_words_of_kins fa fn ts su gd ex w K) :
    ∃ fd : FuncData, (∀ (s : Shared) (v : Value), BindsTo s fd ⟨[v], []⟩ [("script", v)]) ∧ ∀ base : Heap, K.In base → base.Ns mainGlobals mg → FnOk PySem.Challenge.pw_forkwaits_k04_words_of_kins w K mg base CX0 7 f fd ["script"] (spLaw K) := by
  have hd := hd_of (w := w) X G c
  obtain ⟨fd, F⟩ := hd.d_law
  have e := hfa.symm.trans hd.gd_law
  cases e
  have b := FunD.bindsA (ps := ["script"]) F fun _ _ _ _ _ _ us hl => match us, hl with | [_], _ => rfl
  refine ⟨fd, fun s v => b s [v] rfl, fun base _ _ => ?_⟩
  exact fn_quiet (g_law (base := base) hd F) fun vs H Q E q => q
end K04
open PySem PySem.W PySem.Calls PyProof.Rows
theorem PySem.Challenge.cw_forkwaits_k04_words_of_kins_holds : PySem.Challenge.rw_forkwaits_k04_words_of_kins.Holds := by
  w_on; o_law
  refine HandSHeadRun.head_any (r := OpenLaw.row PySem.Challenge.rw_forkwaits_k04_words_of_kins) (q := view (OpenLaw.row PySem.Challenge.rw_forkwaits_k04_words_of_kins).prog [32]) (H := K04.hk) (ob := K04.ob) (M := 30000) (loose := K04.loose) (d := HandSHeadRun.topDef (OpenLaw.row PySem.Challenge.rw_forkwaits_k04_words_of_kins).prog 32) (kwd := []) K04.ob_eq
    (by kernel_rfl) (fun s => by kernel_rfl) K04.run (by kernel_rfl) (by kernel_rfl) (by kernel_rfl) (by rfl) (by first | assumption | decide +kernel) (by decide +kernel) ⟨rfl, rfl, rfl, rfl, rfl, by decide +kernel⟩ ?hw ?hc
  case hw => w_witness2
  case hc =>
    refine L2.walk_ofE (l := PySem.Challenge.rw_forkwaits_k04_words_of_kins) (n := 63) (k := 7) (x := "script") (CX := L2.CX0) rfl (by decide) (by kernel_rfl) ⟨rfl, by decide, by decide⟩ ?F (fun _ _ _ _ z => z)
    intro w mg fa h Y G hmg0
    obtain ⟨K, KX, c⟩ := Y
    have hmg : mg ("law" : PySem.Str) = some (.ref fa) := by
      have e : (HandSHeadRun.topDef (OpenLaw.row PySem.Challenge.rw_forkwaits_k04_words_of_kins).prog 32).name = ("law" : PySem.Str) := by kernel_rfl
      rw [← e]
      exact hmg0
    obtain ⟨fd, hb, hF⟩ := K04.facts (w := w) KX G hmg c
    exact ⟨K, fd, Z.spLaw K, KX, hb, fun H a ns hl _ hS => ⟨a, ns, rfl, hS, hl, fun _ => rfl⟩, hF⟩



